import PyProof.Rows.All
import Wide.All
import OpenK.AllK
import Wide.FinOn
import KE.KStateDown
import Lean
import KE.DataEq
import KE.DataFind
import HandS.ForMost
import HandS.Exc
import HandS.ExcOwn
import HandS.CallSlots
import HandS.Defaults
import HandS.Wide
import HandS.IsInst
import HandS.TupAny
import HandS.Zip
import HandS.Style
import HandS.MakeKwOnly
import HandS.SortInts
import HandS.More
import HandS.WordsExc
import HandS.Lambda
import HandS.TryMany
import HandS.ExcInit
import HandS.ExcField
import HandS.HeadHook4
import HandS.HeadWalk
import HandS.Head0
import HandS.Head1
import HandS.Head2
import HandS.HeadEnd
import HandS.HeadHook1
import HandS.HeadHook2
import HandS.Dict
import HandS.DictComp
import HandS.Iter
import HandS.RevRange
import HandS.Conv
import HandS.TupMul
import HandS.Sort
import HandS.Keys
import KE.KDictCopyH
import KE.KDictSum
import HandS.TupSets
import KE.KDictWalk
import HandS.Flow
import KE.DataMinMax
import KE.SortData
import HandS.EndTab
import HandS.ClsMeth
import HandS.Text
import HandS.FStr
import HandS.Codes
import HandS.Strs
import KE.KDictZip
import KE.KItemsList
import HandS.ListItems
import PySem.Challenge.RW_calmcuts_k25_slices_laid_and_judged
import Open.Tops
set_option Elab.async false
set_option linter.all false
set_option maxRecDepth 100000
set_option maxHeartbeats 4000000
set_option maxHeartbeats 0 in
open_shared Sh for (PySem.W.OpenLaw.prog PySem.Challenge.rw_calmcuts_k25_slices_laid_and_judged) leaving 1
namespace DL
open PySem PySem.Spec PyProof.Rows L2 LamX ClX
def oexB (K : PySem.W.Frag) (C : Addr) : Bool := (match K.lookup C with
  | some ⟨.type c, _, .cls cd, sl⟩ => decide (c = "type") && (cd.hasDict && (!cd.hasDel && (match cd.mro, sl.toList with
    | .ref C' :: bm, [_, _, _, _, some (.builtin n), _] => decide (C' = C) && (decide (n = "ValueError.__new__") && PySem.HandSPX.refsVE bm)
    | _, _ => false)))
  | _ => false) && (decide (PySem.W.findIn K (.ref C) "__setattr__" = some (some (.builtin "object.__setattr__"))) && (decide (PySem.W.subIn K (.ref C) (.type "BaseException") = some true) && (decide (PySem.W.typeIn K (.ref C) = some (.type "type")) && PySem.W.keepIn K (.ref C))))
def noAt (K : PySem.W.Frag) (C : Addr) (f : Str) : Bool := decide (PySem.W.findIn K (.ref C) f = some none)
def xcB (K : PySem.W.Frag) (C : Addr) : Bool := oexB K C && (xfB K C && (noAt K C "called" && (noAt K C "at" && (noAt K C "name" && noAt K C "what"))))
abbrev iniA (K : PySem.W.Frag) (n : Str) : Addr := He.ma K (He.ga K n) "__init__"
def cfB (K : PySem.W.Frag) (C : Addr) (m : Str) (u : Value) : Bool := match PySem.W.findCls K (.ref C) (.type "type") m with
  | some (.val v) => decide (v = u)
  | _ => false
def xclassB (K : PySem.W.Frag) (n : Str) : Bool := xcB K (He.ga K n) && (decide (PySem.W.findIn K (.ref (He.ga K n)) "__init__" = some (some (.ref (iniA K n)))) && (decide (PySem.W.typeIn K (.ref (iniA K n)) = some (.type "function")) &&
  (PySem.W.readsIn K (He.ga K n) (.type "type") && (decide (PySem.W.specialIn K (.ref (He.ga K n)) "__getattribute__" = some (some (.builtin "type.__getattribute__"))) &&
    cfB K (He.ga K n) "__init__" (.ref (iniA K n))))))
/-- n is caught by the first clause of these that it is under -/
def caughtB (K : PySem.W.Frag) (n : Str) : List Str → Bool
  | [] => false
  | c :: r => (match PySem.W.exmOne K (.ref (He.ga K n)) (.ref (He.ga K c)) with
    | some true => true
    | some false => caughtB K n r
    | none => false)
def asS (g : Addr → Option Obj) (n : Nat) : List Addr := He.asD g n ++ [PySem.cStatics]
abbrev frS (n : Nat) (g : Addr → Option Obj) : PySem.W.Frag := He.frT g (asS g n)
def obsS (n : Nat) (fa : List He.Fa) (fn : List He.DefD) (ts : List He.Tab) (tf : List He.Defn) (ex : PySem.W.Frag → Bool) (g : Addr → Option Obj) : He.AlX :=
  (He.obsT fa fn ts (frS n g), ex (frS n g) && He.tabsB g tf (frS n g))
theorem says_obsS {n : Nat} {fa : List He.Fa} {fn : List He.DefD} {ts : List He.Tab} {tf : List He.Defn} {ex : PySem.W.Frag → Bool} {w : World} {h : Heap} (e : obsS n fa fn ts tf ex h.get? = He.valX fn ts w) : He.SaysX fa fn ts tf ex w h (frS n h.get?) := by
  have a1 : He.obsT fa fn ts (frS n h.get?) = He.valT fn ts w := congrArg Prod.fst e
  have a2 : (ex (frS n h.get?) && He.tabsB h.get? tf (frS n h.get?)) = true := congrArg Prod.snd e
  obtain ⟨b1, b2⟩ := Bool.and_eq_true_iff.mp a2
  have tab : ∀ p ∈ tf, PySem.W.codeHdIn (frS n h.get?) (He.cT (frS n h.get?) p).1 (He.cT (frS n h.get?) p).2 = true ∧ ∃ o, h.get? (He.cT (frS n h.get?) p).2 = some o ∧ He.emptyTab o = true := by
    intro p hp
    obtain ⟨c1, c2⟩ := Bool.and_eq_true_iff.mp (List.all_eq_true.mp b2 p hp)
    refine ⟨c1, ?_⟩
    generalize h.get? (He.cT (frS n h.get?) p).2 = u at c2 ⊢
    cases u with
    | none => cases c2
    | some o => exact ⟨o, rfl, c2⟩
  refine ⟨a1, b1, fun p hp => (tab p hp).1, fun p hp => ?_, fun p hp => ?_⟩
  · obtain ⟨_, o, q, z⟩ := tab p hp
    exact He.frT_none q z
  · obtain ⟨_, o, q, z⟩ := tab p hp
    rw [q, He.emptyTab_eq z]
def hookS (n : Nat) (fa : List He.Fa) (fn : List He.DefD) (ts : List He.Tab) (tf : List He.Defn) (ex : PySem.W.Frag → Bool) : PySem.W.Hook where
  α := He.AlX
  obs := fun s => obsS n fa fn ts tf ex s.heap.get?
  val := fun w => He.valX fn ts w
  says := fun w h => ∃ K : PySem.W.Frag, K.In h ∧ He.SaysX fa fn ts tf ex w h K
  of := fun _ _ e => ⟨_, He.frT_in, says_obsS e⟩
  keeps := fun _ _ _ ⟨K, hK, c⟩ k => ⟨K, hK.keeps k, ⟨c.t, c.more, c.hd, c.out, fun p hp => k _ _ (c.empty p hp)⟩⟩
theorem obsS_eq {n : Nat} {fa : List He.Fa} {fn : List He.DefD} {ts : List He.Tab} {tf : List He.Defn} {ex : PySem.W.Frag → Bool} {g : Addr → Option Obj} {s : Shared} (h : ∀ a, g a = s.heap.get? a) : obsS n fa fn ts tf ex g = (hookS n fa fn ts tf ex).obs s := by
  rw [show g = s.heap.get? from funext h] <;> rfl
/-- the same looks, off a tree that is made of the heap's objects first -/
def treeHook (H : PySem.W.Hook) (ob : PySem.W.SharedT → H.α) (hob : ∀ s, ob s = H.obs s.abs) : PySem.W.Hook where
  α := Option H.α
  obs := fun s => (HandSHeadRun.putAll s.heap.objs.toList .nil 0).map fun r => ob ⟨r.1, r.2, s.heap.life, s.gens, s.drawn, s.toks, s.os⟩
  val := fun w => some (H.val w)
  says := H.says
  of := fun w s e => by
    obtain ⟨⟨T, n⟩, h1, h2⟩ := Option.map_eq_some_iff.mp e
    refine H.of w s ?_
    rw [hob] at h2
    have e2 : PySem.W.SharedT.abs ⟨T, n, s.heap.life, s.gens, s.drawn, s.toks, s.os⟩ = s := by
      show (⟨PySem.W.absHeap T n s.heap.life, s.gens, s.drawn, s.toks, s.os⟩ : Shared) = s
      rw [HandSHeadRun.putAll_heap h1]
    rw [e2] at h2
    exact h2
  keeps := H.keeps
end DL
namespace Lw
open PySem PySem.Spec PyProof.Rows L2
def top (i : Nat) : Stmt := PySem.Challenge.pw_calmcuts_k25_slices_laid_and_judged.main.body.getD i (.Pass ⟨0, 0, 0, 0⟩)
abbrev s_law_bag : Stmt := top 50
abbrev s_law_get : Stmt := top 51
abbrev s_law_lean : Stmt := top 71
abbrev s_law_tree : Stmt := top 74
abbrev s_law_gcd : Stmt := top 57
abbrev s_law_part : Stmt := top 58
abbrev s_law_plus : Stmt := top 59
abbrev s_law_times : Stmt := top 60
abbrev s_law_split : Stmt := top 73
abbrev s_law_halves : Stmt := top 76
abbrev s_law_many_in : Stmt := top 75
abbrev s_law_sliced : Stmt := top 77
abbrev s_law_less : Stmt := top 62
abbrev s_law_most : Stmt := top 63
abbrev s_law_pick : Stmt := top 52
abbrev s_law_bent_tuple : Stmt := top 79
abbrev s_law_small_box : Stmt := top 67
abbrev s_law_far : Stmt := top 53
abbrev s_law_number : Stmt := top 64
abbrev s_law_some_part : Stmt := top 65
abbrev s_law_above : Stmt := top 66
abbrev s_law_box : Stmt := top 68
abbrev s_law_weight : Stmt := top 69
abbrev s_law_weights : Stmt := top 70
abbrev s_law_same : Stmt := top 54
abbrev s_law_is_tree : Stmt := top 78
abbrev s_law_ask : Stmt := top 55
abbrev s_law_why : Stmt := top 56
abbrev s_law_over : Stmt := top 61
abbrev s_law_shape : Stmt := top 72
abbrev s_is_whole : Stmt := top 10
abbrev s_common : Stmt := top 11
abbrev s_is_part : Stmt := top 13
abbrev s_is_box : Stmt := top 24
abbrev s_need_box : Stmt := top 25
abbrev s_are_weights : Stmt := top 26
abbrev s_need_weights : Stmt := top 27
abbrev s_need_few : Stmt := top 37
abbrev s_things_in : Stmt := top 36
abbrev s_need_tree : Stmt := top 40
abbrev s_less : Stmt := top 17
abbrev s_greatest : Stmt := top 18
abbrev s_part : Stmt := top 12
abbrev s_over : Stmt := top 16
abbrev s_shape_by : Stmt := top 28
abbrev s_times : Stmt := top 15
abbrev s_plus : Stmt := top 14
abbrev s_split_by : Stmt := top 29
abbrev s_two_by : Stmt := top 38
abbrev s_sliced_by : Stmt := top 39
abbrev s_slices_worst : Stmt := top 42
abbrev s_sliced : Stmt := top 41
abbrev s_best_tree : Stmt := top 43
abbrev s_best_slices : Stmt := top 44
abbrev s_need_bound : Stmt := top 31
abbrev s_paper_by : Stmt := top 45
abbrev s_refuted : Stmt := top 46
abbrev s_is_refuted : Stmt := top 47
abbrev s_refutes : Stmt := top 48
abbrev s_law : Stmt := top 80
def cbody (s : Stmt) : List Stmt := match s with
  | .ClassDef _ _ _ b _ _ _ _ _ _ _ => b
  | _ => []
abbrev si_CutError : Stmt := (cbody (top 1)).getD 0 (.Pass ⟨0, 0, 0, 0⟩)
abbrev si_BadPart : Stmt := (cbody (top 4)).getD 0 (.Pass ⟨0, 0, 0, 0⟩)
abbrev si_BadBox : Stmt := (cbody (top 5)).getD 0 (.Pass ⟨0, 0, 0, 0⟩)
abbrev si_BadWeight : Stmt := (cbody (top 6)).getD 0 (.Pass ⟨0, 0, 0, 0⟩)
abbrev si_BadSizes : Stmt := (cbody (top 7)).getD 0 (.Pass ⟨0, 0, 0, 0⟩)
abbrev si_BadBound : Stmt := (cbody (top 8)).getD 0 (.Pass ⟨0, 0, 0, 0⟩)
abbrev exL : List Str := ["BadPart", "BadBox", "BadWeight", "BadSizes", "BadBound"]
def dd_law_bag : He.DefD := ⟨("_law_bag", none), "_law_bag", "_law_bag", defArgs s_law_bag, defBody s_law_bag, defScope s_law_bag, [], []⟩
def dd_law_get : He.DefD := ⟨("_law_get", none), "_law_get", "_law_get", defArgs s_law_get, defBody s_law_get, defScope s_law_get, [], []⟩
def dd_law_lean : He.DefD := ⟨("_law_lean", none), "_law_lean", "_law_lean", defArgs s_law_lean, defBody s_law_lean, defScope s_law_lean, [], []⟩
def dd_law_tree : He.DefD := ⟨("_law_tree", none), "_law_tree", "_law_tree", defArgs s_law_tree, defBody s_law_tree, defScope s_law_tree, [], []⟩
def dd_law_gcd : He.DefD := ⟨("_law_gcd", none), "_law_gcd", "_law_gcd", defArgs s_law_gcd, defBody s_law_gcd, defScope s_law_gcd, [], []⟩
def dd_law_part : He.DefD := ⟨("_law_part", none), "_law_part", "_law_part", defArgs s_law_part, defBody s_law_part, defScope s_law_part, [], []⟩
def dd_law_plus : He.DefD := ⟨("_law_plus", none), "_law_plus", "_law_plus", defArgs s_law_plus, defBody s_law_plus, defScope s_law_plus, [], []⟩
def dd_law_times : He.DefD := ⟨("_law_times", none), "_law_times", "_law_times", defArgs s_law_times, defBody s_law_times, defScope s_law_times, [], []⟩
def dd_law_split : He.DefD := ⟨("_law_split", none), "_law_split", "_law_split", defArgs s_law_split, defBody s_law_split, defScope s_law_split, [], []⟩
def dd_law_halves : He.DefD := ⟨("_law_halves", none), "_law_halves", "_law_halves", defArgs s_law_halves, defBody s_law_halves, defScope s_law_halves, [], []⟩
def dd_law_many_in : He.DefD := ⟨("_law_many_in", none), "_law_many_in", "_law_many_in", defArgs s_law_many_in, defBody s_law_many_in, defScope s_law_many_in, [], []⟩
def dd_law_sliced : He.DefD := ⟨("_law_sliced", none), "_law_sliced", "_law_sliced", defArgs s_law_sliced, defBody s_law_sliced, defScope s_law_sliced, [], []⟩
def dd_law_less : He.DefD := ⟨("_law_less", none), "_law_less", "_law_less", defArgs s_law_less, defBody s_law_less, defScope s_law_less, [], []⟩
def dd_law_most : He.DefD := ⟨("_law_most", none), "_law_most", "_law_most", defArgs s_law_most, defBody s_law_most, defScope s_law_most, [], []⟩
def dd_law_pick : He.DefD := ⟨("_law_pick", none), "_law_pick", "_law_pick", defArgs s_law_pick, defBody s_law_pick, defScope s_law_pick, [], []⟩
def dd_law_bent_tuple : He.DefD := ⟨("_law_bent_tuple", none), "_law_bent_tuple", "_law_bent_tuple", defArgs s_law_bent_tuple, defBody s_law_bent_tuple, defScope s_law_bent_tuple, [], []⟩
def dd_law_small_box : He.DefD := ⟨("_law_small_box", none), "_law_small_box", "_law_small_box", defArgs s_law_small_box, defBody s_law_small_box, defScope s_law_small_box, [], []⟩
def dd_law_far : He.DefD := ⟨("_law_far", none), "_law_far", "_law_far", defArgs s_law_far, defBody s_law_far, defScope s_law_far, [], []⟩
def dd_law_number : He.DefD := ⟨("_law_number", none), "_law_number", "_law_number", defArgs s_law_number, defBody s_law_number, defScope s_law_number, [], []⟩
def dd_law_some_part : He.DefD := ⟨("_law_some_part", none), "_law_some_part", "_law_some_part", defArgs s_law_some_part, defBody s_law_some_part, defScope s_law_some_part, [], []⟩
def dd_law_above : He.DefD := ⟨("_law_above", none), "_law_above", "_law_above", defArgs s_law_above, defBody s_law_above, defScope s_law_above, [], []⟩
def dd_law_box : He.DefD := ⟨("_law_box", none), "_law_box", "_law_box", defArgs s_law_box, defBody s_law_box, defScope s_law_box, [], []⟩
def dd_law_weight : He.DefD := ⟨("_law_weight", none), "_law_weight", "_law_weight", defArgs s_law_weight, defBody s_law_weight, defScope s_law_weight, [], []⟩
def dd_law_weights : He.DefD := ⟨("_law_weights", none), "_law_weights", "_law_weights", defArgs s_law_weights, defBody s_law_weights, defScope s_law_weights, [], []⟩
def dd_law_same : He.DefD := ⟨("_law_same", none), "_law_same", "_law_same", defArgs s_law_same, defBody s_law_same, defScope s_law_same, [], []⟩
def dd_law_is_tree : He.DefD := ⟨("_law_is_tree", none), "_law_is_tree", "_law_is_tree", defArgs s_law_is_tree, defBody s_law_is_tree, defScope s_law_is_tree, [], []⟩
def dd_law_ask : He.DefD := ⟨("_law_ask", none), "_law_ask", "_law_ask", defArgs s_law_ask, defBody s_law_ask, defScope s_law_ask, [], []⟩
def dd_law_why : He.DefD := ⟨("_law_why", none), "_law_why", "_law_why", defArgs s_law_why, defBody s_law_why, defScope s_law_why, [], []⟩
def dd_law_over : He.DefD := ⟨("_law_over", none), "_law_over", "_law_over", defArgs s_law_over, defBody s_law_over, defScope s_law_over, [], []⟩
def dd_law_shape : He.DefD := ⟨("_law_shape", none), "_law_shape", "_law_shape", defArgs s_law_shape, defBody s_law_shape, defScope s_law_shape, [], []⟩
def dd_is_whole : He.DefD := ⟨("is_whole", none), "is_whole", "is_whole", defArgs s_is_whole, defBody s_is_whole, defScope s_is_whole, [], []⟩
def dd_common : He.DefD := ⟨("common", none), "common", "common", defArgs s_common, defBody s_common, defScope s_common, [], []⟩
def dd_is_part : He.DefD := ⟨("is_part", none), "is_part", "is_part", defArgs s_is_part, defBody s_is_part, defScope s_is_part, [], []⟩
def dd_is_box : He.DefD := ⟨("is_box", none), "is_box", "is_box", defArgs s_is_box, defBody s_is_box, defScope s_is_box, [], []⟩
def dd_need_box : He.DefD := ⟨("need_box", none), "need_box", "need_box", defArgs s_need_box, defBody s_need_box, defScope s_need_box, [], []⟩
def dd_are_weights : He.DefD := ⟨("are_weights", none), "are_weights", "are_weights", defArgs s_are_weights, defBody s_are_weights, defScope s_are_weights, [], []⟩
def dd_need_weights : He.DefD := ⟨("need_weights", none), "need_weights", "need_weights", defArgs s_need_weights, defBody s_need_weights, defScope s_need_weights, [], []⟩
def dd_need_few : He.DefD := ⟨("need_few", none), "need_few", "need_few", defArgs s_need_few, defBody s_need_few, defScope s_need_few, [], []⟩
def dd_things_in : He.DefD := ⟨("things_in", none), "things_in", "things_in", defArgs s_things_in, defBody s_things_in, defScope s_things_in, [], []⟩
def dd_need_tree : He.DefD := ⟨("need_tree", none), "need_tree", "need_tree", defArgs s_need_tree, defBody s_need_tree, defScope s_need_tree, [], []⟩
def dd_less : He.DefD := ⟨("less", none), "less", "less", defArgs s_less, defBody s_less, defScope s_less, [], []⟩
def dd_greatest : He.DefD := ⟨("greatest", none), "greatest", "greatest", defArgs s_greatest, defBody s_greatest, defScope s_greatest, [], []⟩
def dd_part : He.DefD := ⟨("part", none), "part", "part", defArgs s_part, defBody s_part, defScope s_part, [], []⟩
def dd_over : He.DefD := ⟨("over", none), "over", "over", defArgs s_over, defBody s_over, defScope s_over, [], []⟩
def dd_shape_by : He.DefD := ⟨("shape_by", none), "shape_by", "shape_by", defArgs s_shape_by, defBody s_shape_by, defScope s_shape_by, [], []⟩
def dd_times : He.DefD := ⟨("times", none), "times", "times", defArgs s_times, defBody s_times, defScope s_times, [], []⟩
def dd_plus : He.DefD := ⟨("plus", none), "plus", "plus", defArgs s_plus, defBody s_plus, defScope s_plus, [], []⟩
def dd_split_by : He.DefD := ⟨("split_by", none), "split_by", "split_by", defArgs s_split_by, defBody s_split_by, defScope s_split_by, [], []⟩
def dd_two_by : He.DefD := ⟨("two_by", none), "two_by", "two_by", defArgs s_two_by, defBody s_two_by, defScope s_two_by, [], []⟩
def dd_sliced_by : He.DefD := ⟨("sliced_by", none), "sliced_by", "sliced_by", defArgs s_sliced_by, defBody s_sliced_by, defScope s_sliced_by, [], []⟩
def dd_slices_worst : He.DefD := ⟨("slices_worst", none), "slices_worst", "slices_worst", defArgs s_slices_worst, defBody s_slices_worst, defScope s_slices_worst, [], []⟩
def dd_sliced : He.DefD := ⟨("sliced", none), "sliced", "sliced", defArgs s_sliced, defBody s_sliced, defScope s_sliced, [], []⟩
def dd_best_tree : He.DefD := ⟨("best_tree", none), "best_tree", "best_tree", defArgs s_best_tree, defBody s_best_tree, defScope s_best_tree, [], []⟩
def dd_best_slices : He.DefD := ⟨("best_slices", none), "best_slices", "best_slices", defArgs s_best_slices, defBody s_best_slices, defScope s_best_slices, [], []⟩
def dd_need_bound : He.DefD := ⟨("need_bound", none), "need_bound", "need_bound", defArgs s_need_bound, defBody s_need_bound, defScope s_need_bound, [], []⟩
def dd_paper_by : He.DefD := ⟨("paper_by", none), "paper_by", "paper_by", defArgs s_paper_by, defBody s_paper_by, defScope s_paper_by, [], []⟩
def dd_refuted : He.DefD := ⟨("refuted", none), "refuted", "refuted", defArgs s_refuted, defBody s_refuted, defScope s_refuted, [], []⟩
def dd_is_refuted : He.DefD := ⟨("is_refuted", none), "is_refuted", "is_refuted", defArgs s_is_refuted, defBody s_is_refuted, defScope s_is_refuted, [], []⟩
def dd_refutes : He.DefD := ⟨("refutes", none), "refutes", "refutes", defArgs s_refutes, defBody s_refutes, defScope s_refutes, [], []⟩
def dd_law : He.DefD := ⟨("law", none), "law", "law", defArgs s_law, defBody s_law, defScope s_law, [], []⟩
def dd_i_CutError : He.DefD := ⟨("CutError", some "__init__"), "__init__", "CutError.__init__", defArgs si_CutError, defBody si_CutError, defScope si_CutError, [], []⟩
def dd_i_BadPart : He.DefD := ⟨("BadPart", some "__init__"), "__init__", "BadPart.__init__", defArgs si_BadPart, defBody si_BadPart, defScope si_BadPart, [], []⟩
def dd_i_BadBox : He.DefD := ⟨("BadBox", some "__init__"), "__init__", "BadBox.__init__", defArgs si_BadBox, defBody si_BadBox, defScope si_BadBox, [], []⟩
def dd_i_BadWeight : He.DefD := ⟨("BadWeight", some "__init__"), "__init__", "BadWeight.__init__", defArgs si_BadWeight, defBody si_BadWeight, defScope si_BadWeight, [], []⟩
def dd_i_BadSizes : He.DefD := ⟨("BadSizes", some "__init__"), "__init__", "BadSizes.__init__", defArgs si_BadSizes, defBody si_BadSizes, defScope si_BadSizes, [], []⟩
def dd_i_BadBound : He.DefD := ⟨("BadBound", some "__init__"), "__init__", "BadBound.__init__", defArgs si_BadBound, defBody si_BadBound, defScope si_BadBound, [], []⟩
def fnD : List He.DefD := [dd_law_bag, dd_law_get, dd_law_lean, dd_law_tree, dd_law_gcd, dd_law_part, dd_law_plus, dd_law_times, dd_law_split, dd_law_halves, dd_law_many_in, dd_law_sliced, dd_law_less, dd_law_most, dd_law_pick, dd_law_bent_tuple, dd_law_small_box, dd_law_far, dd_law_number, dd_law_some_part, dd_law_above, dd_law_box, dd_law_weight, dd_law_weights, dd_law_same, dd_law_is_tree, dd_law_ask, dd_law_why, dd_law_over, dd_law_shape, dd_is_whole, dd_common, dd_is_part, dd_is_box, dd_need_box, dd_are_weights, dd_need_weights, dd_need_few, dd_things_in, dd_need_tree, dd_less, dd_greatest, dd_part, dd_over, dd_shape_by, dd_times, dd_plus, dd_split_by, dd_two_by, dd_sliced_by, dd_slices_worst, dd_sliced, dd_best_tree, dd_best_slices, dd_need_bound, dd_paper_by, dd_refuted, dd_is_refuted, dd_refutes, dd_law, dd_i_CutError, dd_i_BadPart, dd_i_BadBox, dd_i_BadWeight, dd_i_BadSizes, dd_i_BadBound]
def faD : List He.Fa := [.glo "_law_bag", .glo "_law_get", .glo "_law_lean", .glo "_law_tree", .glo "_law_gcd", .glo "_law_part", .glo "_law_plus", .glo "_law_times", .glo "_law_split", .glo "_law_halves", .glo "_law_many_in", .glo "_law_sliced", .glo "_law_less", .glo "_law_most", .glo "_law_pick", .glo "_law_bent_tuple", .glo "_law_small_box", .glo "_law_far", .glo "_law_number", .glo "_law_some_part", .glo "_law_above", .glo "_law_box", .glo "_law_weight", .glo "_law_weights", .glo "_law_same", .glo "_law_is_tree", .glo "_law_ask", .glo "_law_why", .glo "_law_over", .glo "_law_shape", .glo "is_whole", .glo "common", .glo "is_part", .glo "is_box", .glo "need_box", .glo "are_weights", .glo "need_weights", .glo "need_few", .glo "things_in", .glo "need_tree", .glo "less", .glo "greatest", .glo "part", .glo "over", .glo "shape_by", .glo "times", .glo "plus", .glo "split_by", .glo "two_by", .glo "sliced_by", .glo "slices_worst", .glo "sliced", .glo "best_tree", .glo "best_slices", .glo "need_bound", .glo "paper_by", .glo "refuted", .glo "is_refuted", .glo "refutes", .glo "law", .free "abs", .free "all", .free "any", .free "bool", .free "dict", .free "int", .free "isinstance", .free "len", .free "list", .free "range", .free "str", .free "sum", .free "tuple", .free "zip", .str "DOWN" "down", .int "MOST_CHILDREN" 12, .int "MOST_REFUTED" 5, .int "MOST_SLICED" 6, .int "MOST_WEIGHT" 400000, .glo "CutError", .glo "Missing", .glo "NothingLeft", .glo "BadPart", .glo "BadBox", .glo "BadWeight", .glo "BadSizes", .glo "BadBound", .glo "SIDES", .free "ValueError"]
def tfD : List He.Defn := [("law", none)]
def exB (K : PySem.W.Frag) : Bool := ((["CutError", "BadPart", "BadBox", "BadWeight", "BadSizes", "BadBound"] : List Str).all fun n => DL.xclassB K n) && ((exL.all fun n => DL.caughtB K n ["CutError", "Missing", "NothingLeft"] && (L2.xfB K (He.ga K n) && DL.noAt K (He.ga K n) "called")) && decide ((tfD.map fun p => (He.cT K p).2).Nodup ∧ He.tupB K "SIDES" [.str "down", .str "across"] = true))
abbrev hk : PySem.W.Hook := DL.hookS 4 faD fnD [] tfD exB
def ob (s : PySem.W.SharedT) : He.AlX := DL.obsS 4 faD fnD [] tfD exB (HandSHeadRun.getT s)
theorem ob_eq (s : PySem.W.SharedT) : ob s = hk.obs s.abs := DL.obsS_eq (HandSHeadRun.getT_eq s)
abbrev hk2 : PySem.W.Hook := DL.treeHook hk ob ob_eq
end Lw
namespace DL
open PySem L2
inductive D where
  | non | bl (b : Bool) | int (i : Int) | str (x : Str)
  | tup (xs : List D) | lst (xs : List D) | dic (kvs : List (Key × D)) | dct (kvs : List (List Key × D))
  | ins (c : Str) (fs : List (Str × D)) | xcp (a dd : Addr) (c : Str) (fs : List (Str × D))
  | opq (v : V)
def Ex (H H' : Hp) : Prop := ∀ a o, H a = some o → H' a = some o
theorem Ex.refl (H : Hp) : Ex H H := fun _ _ h => h
theorem Ex.trans {H H1 H2 : Hp} (a : Ex H H1) (b : Ex H1 H2) : Ex H H2 := fun x o h => b x o (a x o h)
theorem Ex.new {H : Hp} {p : Addr} {o : HO} (h : H p = none) : Ex H (upd H p o) := fun a u e => by
  rw [upd_ne (ne_of_none e h)]; exact e
theorem Ex.back {H H' : Hp} {p : Addr} (e : Ex H H') (h : H' p = none) : H p = none := by
  cases h1 : H p with
  | none => rfl
  | some o => rw [e p o h1] at h; cases h
theorem ex_rd {H H' : Hp} {a : Addr} {u : HO} (e : Ex H H') (h : Rd H a u) : Rd H' a u := by
  rcases h with h | ⟨o, h⟩
  · exact Or.inl (e a _ h)
  · exact Or.inr ⟨o, e a _ h⟩
theorem ex_l {K : PySem.W.Frag} {H H' : Hp} {a : Addr} {xs : List V} (e : Ex H H') (h : SqL K H a xs) : SqL K H' a xs := by
  rcases h with h | h
  · exact Or.inl (ex_rd e h)
  · exact Or.inr h
theorem ex_t {K : PySem.W.Frag} {H H' : Hp} {a : Addr} {xs : List V} (e : Ex H H') (h : SqT K H a xs) : SqT K H' a xs := by
  rcases h with h | h
  · exact Or.inl (ex_rd e h)
  · exact Or.inr h
mutual
inductive Rep (K : PySem.W.Frag) (G : Hp) : V → D → Prop
  | non : Rep K G .non .non
  | bl (b : Bool) : Rep K G (.bl b) (.bl b)
  | int (i : Int) : Rep K G (.int i) (.int i)
  | str (x : Str) : Rep K G (.str x) (.str x)
  | opq (v : V) : Rep K G v (.opq v)
  | lst {a : Addr} {xs : List V} {ds : List D} : SqL K G a xs → RepL K G xs ds → Rep K G (.ref a) (.lst ds)
  | tup {a : Addr} {xs : List V} {ds : List D} : SqT K G a xs → RepL K G xs ds → Rep K G (.ref a) (.tup ds)
  | dic {a : Addr} {o : Obj} {xs : List (Key × V)} {ds : List (Key × D)} : G a = some (.frz o (.dK xs)) → RepK K G xs ds → Rep K G (.ref a) (.dic ds)
  | dct {a : Addr} {o : Obj} {xs : List (List Key × V)} {ds : List (List Key × D)} : G a = some (.frz o (.dT xs)) → RepT K G xs ds → Rep K G (.ref a) (.dct ds)
  | ins {a dx : Addr} {c : Str} {xs : List (Str × V)} {fs : List (Str × D)} : G a = some (.ins (He.ga K c) dx xs) → G dx = some (.own a) → RepF K G xs fs → Rep K G (.ref a) (.ins c fs)
  | xcp {a dd : Addr} {c : Str} {xs : List (Str × V)} {fs : List (Str × D)} : G dd = some (.xd xs) → RepX K G xs fs → Rep K G (.ref a) (.xcp a dd c fs)
inductive RepL (K : PySem.W.Frag) (G : Hp) : List V → List D → Prop
  | nil : RepL K G [] []
  | cons {v : V} {vs : List V} {d : D} {ds : List D} : Rep K G v d → RepL K G vs ds → RepL K G (v :: vs) (d :: ds)
inductive RepK (K : PySem.W.Frag) (G : Hp) : List (Key × V) → List (Key × D) → Prop
  | nil : RepK K G [] []
  | cons {k : Key} {v : V} {vs : List (Key × V)} {d : D} {ds : List (Key × D)} : Rep K G v d → RepK K G vs ds → RepK K G ((k, v) :: vs) ((k, d) :: ds)
inductive RepT (K : PySem.W.Frag) (G : Hp) : List (List Key × V) → List (List Key × D) → Prop
  | nil : RepT K G [] []
  | cons {k : List Key} {v : V} {vs : List (List Key × V)} {d : D} {ds : List (List Key × D)} : Rep K G v d → RepT K G vs ds → RepT K G ((k, v) :: vs) ((k, d) :: ds)
/-- fields, one by one -/
inductive RepF (K : PySem.W.Frag) (G : Hp) : List (Str × V) → List (Str × D) → Prop
  | nil : RepF K G [] []
  | cons {k : Str} {v : V} {vs : List (Str × V)} {d : D} {ds : List (Str × D)} : Rep K G v d → RepF K G vs ds → RepF K G ((k, v) :: vs) ((k, d) :: ds)
/-- some fields, by name -/
inductive RepX (K : PySem.W.Frag) (G : Hp) : List (Str × V) → List (Str × D) → Prop
  | nil {vs : List (Str × V)} : RepX K G vs []
  | cons {k : Str} {v : V} {vs : List (Str × V)} {d : D} {ds : List (Str × D)} : vs.lookup k = some v → Rep K G v d → RepX K G vs ds → RepX K G vs ((k, d) :: ds)
end
mutual
theorem Rep.mono {K : PySem.W.Frag} {G G' : Hp} (e : Ex G G') : ∀ {v : V} {d : D}, Rep K G v d → Rep K G' v d
  | _, _, .non => .non
  | _, _, .bl b => .bl b
  | _, _, .int i => .int i
  | _, _, .str x => .str x
  | _, _, .opq v => .opq v
  | _, _, .lst h r => .lst (ex_l e h) (r.mono e)
  | _, _, .tup h r => .tup (ex_t e h) (r.mono e)
  | _, _, .dic h r => .dic (e _ _ h) (r.mono e)
  | _, _, .dct h r => .dct (e _ _ h) (r.mono e)
  | _, _, .ins h q r => .ins (e _ _ h) (e _ _ q) (r.mono e)
  | _, _, .xcp h r => .xcp (e _ _ h) (r.mono e)
theorem RepL.mono {K : PySem.W.Frag} {G G' : Hp} (e : Ex G G') : ∀ {vs : List V} {ds : List D}, RepL K G vs ds → RepL K G' vs ds
  | _, _, .nil => .nil
  | _, _, .cons h r => .cons (h.mono e) (r.mono e)
theorem RepK.mono {K : PySem.W.Frag} {G G' : Hp} (e : Ex G G') : ∀ {vs : List (Key × V)} {ds : List (Key × D)}, RepK K G vs ds → RepK K G' vs ds
  | _, _, .nil => .nil
  | _, _, .cons h r => .cons (h.mono e) (r.mono e)
theorem RepT.mono {K : PySem.W.Frag} {G G' : Hp} (e : Ex G G') : ∀ {vs : List (List Key × V)} {ds : List (List Key × D)}, RepT K G vs ds → RepT K G' vs ds
  | _, _, .nil => .nil
  | _, _, .cons h r => .cons (h.mono e) (r.mono e)
theorem RepF.mono {K : PySem.W.Frag} {G G' : Hp} (e : Ex G G') : ∀ {vs : List (Str × V)} {ds : List (Str × D)}, RepF K G vs ds → RepF K G' vs ds
  | _, _, .nil => .nil
  | _, _, .cons h r => .cons (h.mono e) (r.mono e)
theorem RepX.mono {K : PySem.W.Frag} {G G' : Hp} (e : Ex G G') : ∀ {vs : List (Str × V)} {ds : List (Str × D)}, RepX K G vs ds → RepX K G' vs ds
  | _, _, .nil => .nil
  | _, _, .cons q h r => .cons q (h.mono e) (r.mono e)
end
theorem RepX.get {K : PySem.W.Frag} {G : Hp} : ∀ {vs : List (Str × V)} {ds : List (Str × D)} {f : Str} {y : D}, RepX K G vs ds → ds.lookup f = some y → ∃ v, vs.lookup f = some v ∧ Rep K G v y
  | _, _, f, y, .nil, e => by cases e
  | _, (k, d) :: ds, f, y, .cons q h r, e => by
    by_cases z : f = k
    · subst z
      simp only [List.lookup, beq_self_eq_true, Option.some.injEq] at e
      subst e
      exact ⟨_, q, h⟩
    · have z2 : (f == k) = false := beq_false_of_ne z
      simp only [List.lookup, z2] at e
      exact r.get e
theorem RepF.get {K : PySem.W.Frag} {G : Hp} : ∀ {vs : List (Str × V)} {ds : List (Str × D)} {f : Str} {y : D}, RepF K G vs ds → ds.lookup f = some y → ∃ v, vs.lookup f = some v ∧ Rep K G v y
  | _, _, f, y, .nil, e => by cases e
  | (_, v) :: vs, (k, d) :: ds, f, y, .cons h r, e => by
    by_cases z : f = k
    · subst z
      simp only [List.lookup, beq_self_eq_true, Option.some.injEq] at e ⊢
      subst e
      exact ⟨_, rfl, h⟩
    · have z2 : (f == k) = false := beq_false_of_ne z
      simp only [List.lookup, z2] at e ⊢
      exact r.get e
theorem RepF.none {K : PySem.W.Frag} {G : Hp} : ∀ {vs : List (Str × V)} {ds : List (Str × D)} {f : Str}, RepF K G vs ds → ds.lookup f = none → vs.lookup f = none
  | _, _, f, .nil, _ => rfl
  | (_, v) :: vs, (k, d) :: ds, f, .cons h r, e => by
    by_cases z : f = k
    · subst z
      simp [List.lookup] at e
    · have z2 : (f == k) = false := beq_false_of_ne z
      simp only [List.lookup, z2] at e ⊢
      exact r.none e
theorem RepL.length {K : PySem.W.Frag} {G : Hp} : ∀ {vs : List V} {ds : List D}, RepL K G vs ds → vs.length = ds.length
  | _, _, .nil => rfl
  | _, _, .cons _ r => congrArg Nat.succ r.length
theorem RepL.get {K : PySem.W.Frag} {G : Hp} : ∀ {vs : List V} {ds : List D} {i : Nat} {d : D}, RepL K G vs ds → ds[i]? = some d → ∃ v, vs[i]? = some v ∧ Rep K G v d
  | _, _, _, _, .nil, e => by simp at e
  | _, _, 0, _, .cons h _, e => by simp at e; subst e; exact ⟨_, rfl, h⟩
  | _, _, i + 1, d, .cons _ r, e => by
    obtain ⟨u, h1, h2⟩ := RepL.get (i := i) (d := d) r (by simpa using e)
    exact ⟨u, by simpa using h1, h2⟩
theorem RepL.append {K : PySem.W.Frag} {G : Hp} : ∀ {vs ws : List V} {ds es : List D}, RepL K G vs ds → RepL K G ws es → RepL K G (vs ++ ws) (ds ++ es)
  | _, _, _, _, .nil, s => s
  | _, _, _, _, .cons h r, s => .cons h (r.append s)
theorem RepL.take {K : PySem.W.Frag} {G : Hp} : ∀ {vs : List V} {ds : List D} (n : Nat), RepL K G vs ds → RepL K G (vs.take n) (ds.take n)
  | _, _, 0, _ => by simp; exact .nil
  | _, _, _ + 1, .nil => .nil
  | _, _, n + 1, .cons h r => .cons h (r.take n)
theorem RepL.drop {K : PySem.W.Frag} {G : Hp} : ∀ {vs : List V} {ds : List D} (n : Nat), RepL K G vs ds → RepL K G (vs.drop n) (ds.drop n)
  | _, _, 0, r => r
  | _, _, _ + 1, .nil => .nil
  | _, _, n + 1, .cons _ r => r.drop n
theorem RepL.set {K : PySem.W.Frag} {G : Hp} {v : V} {d : D} (h : Rep K G v d) : ∀ {vs : List V} {ds : List D} (n : Nat), RepL K G vs ds → RepL K G (vs.set n v) (ds.set n d)
  | _, _, _, .nil => .nil
  | _, _, 0, .cons _ r => .cons h r
  | _, _, n + 1, .cons q r => .cons q (r.set h n)
theorem RepL.intsL {K : PySem.W.Frag} {G : Hp} : ∀ {vs : List V} (ns : List Int), RepL K G vs (ns.map D.int) → vs = ns.map V.int
  | _, [], .nil => rfl
  | _, n :: ns, .cons h r => by
    cases h
    rw [List.map_cons, RepL.intsL ns r]
theorem RepL.ofInts {K : PySem.W.Frag} {G : Hp} : ∀ (ns : List Int), RepL K G (ns.map V.int) (ns.map D.int)
  | [] => .nil
  | n :: ns => .cons (.int n) (RepL.ofInts ns)
theorem RepL.bls {K : PySem.W.Frag} {G : Hp} : ∀ {vs : List V} (ns : List Bool), RepL K G vs (ns.map D.bl) → vs = ns.map V.bl
  | _, [], .nil => rfl
  | _, n :: ns, .cons h r => by
    cases h
    rw [List.map_cons, RepL.bls ns r]
inductive MO where
  | lst (ds : List D) | dic (kvs : List (Key × D)) | dct (kvs : List (List Key × D))
  | tbl (q : Str) | ins (c : Str) (dx : Addr) (fs : List (Str × D))
abbrev Cs := List (Addr × MO)
def adr (cs : Cs) : List Addr := cs.map (·.1)
def pur (F : Hp) (cs : Cs) (H : Hp) : Hp := fun b => if (F b).isSome = true ∨ b ∈ adr cs then none else H b
def MoOk (K : PySem.W.Frag) (G : Hp) : MO → HO → Prop
  | .lst ds, .lst vs => RepL K G vs ds
  | .dic ds, .dK vs => RepK K G vs ds
  | .dct ds, .dT vs => RepT K G vs ds
  | .tbl q, .tbl ps => TriplesOk ps.toList ∧ ∀ (pos : Pos) (cv : Value), codeAmong pos ps.toList = some cv → ∃ c, cv = .ref c ∧ G c = some (LamX.CodeO c q)
  | _, _ => False
theorem MoOk.mono {K : PySem.W.Frag} {G G' : Hp} (e : Ex G G') : ∀ {m : MO} {o : HO}, MoOk K G m o → MoOk K G' m o := by
  intro m o h
  cases m <;> cases o <;> first | exact h.elim | exact RepL.mono e h | exact RepK.mono e h | exact RepT.mono e h | exact ⟨h.1, fun pos cv hc => by
    obtain ⟨c, e1, e2⟩ := h.2 pos cv hc
    exact ⟨c, e1, e _ _ e2⟩⟩
structure Sta (K : PySem.W.Frag) (F G0 : Hp) (cs : Cs) (H : Hp) : Prop where
  fr : Ex F H
  gr : Ex G0 (pur F cs H)
  nd : (adr cs).Nodup
  ap : ∀ a ∈ adr cs, F a = none
  ow : ∀ a m, (a, m) ∈ cs → ∃ o, H a = some o ∧ MoOk K (pur F cs H) m o
  ft : ∀ a xs, F a ≠ some (.tup xs)
section
variable {K : PySem.W.Frag} {F G G0 G1 H H1 H' : Hp} {cs cs1 cs' : Cs} {p : Addr} {o : HO} {m : MO}
theorem Sta.self (s : Sta K F G0 cs H) : Sta K F (pur F cs H) cs H := ⟨s.fr, Ex.refl _, s.nd, s.ap, s.ow, s.ft⟩
theorem Sta.from_ (s : Sta K F G1 cs H) (e : Ex G0 G1) : Sta K F G0 cs H := ⟨s.fr, e.trans s.gr, s.nd, s.ap, s.ow, s.ft⟩
theorem pur_of {b : Addr} {u : HO} (h : pur F cs H b = some u) : H b = some u ∧ F b = none ∧ b ∉ adr cs := by
  unfold pur at h
  split at h
  · cases h
  · rename_i q
    refine ⟨h, ?_, fun z => q (.inr z)⟩
    cases e : F b with
    | none => rfl
    | some x => exact absurd (Or.inl (by rw [e]; rfl)) q
theorem pur_at {b : Addr} (h1 : F b = none) (h2 : b ∉ adr cs) : pur F cs H b = H b := by
  unfold pur
  rw [if_neg]
  rintro (z | z)
  · rw [h1] at z; cases z
  · exact h2 z
/-- a new thing that never changes -/
theorem Sta.new (s : Sta K F G0 cs H) (h : H p = none) : Sta K F (pur F cs H) cs (upd H p o) ∧ pur F cs (upd H p o) p = some o := by
  have hF : F p = none := s.fr.back h
  have hc : p ∉ adr cs := fun z => by
    obtain ⟨⟨a, m⟩, hm, e⟩ := List.mem_map.mp z
    obtain ⟨u, hu, _⟩ := s.ow a m hm
    have e' : a = p := e
    rw [e', h] at hu; cases hu
  have g : Ex (pur F cs H) (pur F cs (upd H p o)) := fun b u e => by
    obtain ⟨e1, e2, e3⟩ := pur_of e
    rw [pur_at e2 e3, upd_ne (ne_of_none e1 h)]; exact e1
  refine ⟨⟨s.fr.trans (Ex.new h), g, s.nd, s.ap, fun a m hm => ?_, s.ft⟩, by rw [pur_at hF hc, upd_same]⟩
  obtain ⟨u, hu, q⟩ := s.ow a m hm
  exact ⟨u, by rw [upd_ne (ne_of_none hu h)]; exact hu, q.mono g⟩
theorem Sta.notin (s : Sta K F G0 cs H) (h : H p = none) : F p = none ∧ p ∉ adr cs := by
  refine ⟨s.fr.back h, fun z => ?_⟩
  obtain ⟨⟨a, m⟩, hm, e⟩ := List.mem_map.mp z
  obtain ⟨u, hu, _⟩ := s.ow a m hm
  have e' : a = p := e
  rw [e', h] at hu; cases hu
/-- a new thing that may change -/
theorem Sta.newM (s : Sta K F G0 cs H) (h : H p = none) (q : MoOk K (pur F cs H) m o) : Sta K F (pur F cs H) ((p, m) :: cs) (upd H p o) := by
  obtain ⟨hF, hc⟩ := s.notin h
  have g : Ex (pur F cs H) (pur F ((p, m) :: cs) (upd H p o)) := fun b u e => by
    obtain ⟨e1, e2, e3⟩ := pur_of e
    have hb : b ≠ p := ne_of_none e1 h
    rw [pur_at e2 (by show b ∉ p :: adr cs; simp [hb, e3]), upd_ne hb]; exact e1
  refine ⟨s.fr.trans (Ex.new h), g, ?_, ?_, ?_, s.ft⟩
  · show (p :: adr cs).Nodup
    exact List.nodup_cons.mpr ⟨hc, s.nd⟩
  · intro a ha
    rcases List.mem_cons.mp (show a ∈ p :: adr cs from ha) with e | e
    · rw [e]; exact hF
    · exact s.ap a e
  · intro a m' hm
    rcases List.mem_cons.mp hm with e | e
    · cases e
      exact ⟨o, upd_same, q.mono g⟩
    · obtain ⟨u, hu, r⟩ := s.ow a m' e
      exact ⟨u, by rw [upd_ne (ne_of_none hu h)]; exact hu, r.mono g⟩
/-- the content of p replaced -/
def put (p : Addr) (m : MO) : Cs → Cs
  | [] => []
  | (a, x) :: r => if a = p then (a, m) :: r else (a, x) :: put p m r
def look (p : Addr) : Cs → Option MO
  | [] => none
  | (a, x) :: r => if a = p then some x else look p r
theorem adr_put (p : Addr) (m : MO) : ∀ cs : Cs, adr (put p m cs) = adr cs
  | [] => rfl
  | (a, x) :: r => by
    unfold put
    split
    · rfl
    · show a :: adr (put p m r) = a :: adr r
      rw [adr_put p m r]
theorem look_mem {p : Addr} {m : MO} : ∀ {cs : Cs}, look p cs = some m → (p, m) ∈ cs
  | [], h => by cases h
  | (a, x) :: r, h => by
    unfold look at h
    split at h
    · rename_i e
      cases h; cases e
      exact List.mem_cons_self ..
    · exact List.mem_cons_of_mem _ (look_mem h)
theorem look_put {p : Addr} {m m' : MO} : ∀ {cs : Cs}, look p cs = some m → look p (put p m' cs) = some m'
  | [], h => by cases h
  | (a, x) :: r, h => by
    unfold look at h
    unfold put
    split at h
    · rename_i e
      rw [if_pos e]
      unfold look
      rw [if_pos e]
    · rename_i e
      rw [if_neg e]
      unfold look
      rw [if_neg e]
      exact look_put h
theorem look_put_ne {p q : Addr} {m : MO} (hn : q ≠ p) : ∀ {cs : Cs}, look q (put p m cs) = look q cs
  | [] => rfl
  | (a, x) :: r => by
    unfold put
    split
    · rename_i e
      unfold look
      rw [if_neg (fun z => hn (z.symm.trans e)), if_neg (fun z => hn (z.symm.trans e))]
    · unfold look
      rw [look_put_ne hn]
theorem put_put {p : Addr} {m m' : MO} : ∀ {cs : Cs}, put p m' (put p m cs) = put p m' cs
  | [] => rfl
  | (a, x) :: r => by
    by_cases e : a = p
    · have e1 : put p m ((a, x) :: r) = (a, m) :: r := by simp [put, e]
      have e2 : put p m' ((a, x) :: r) = (a, m') :: r := by simp [put, e]
      rw [e1, e2]; simp [put, e]
    · have e1 : put p m ((a, x) :: r) = (a, x) :: put p m r := by simp [put, e]
      have e2 : put p m' ((a, x) :: r) = (a, x) :: put p m' r := by simp [put, e]
      rw [e1, e2]
      have ih := put_put (p := p) (m := m) (m' := m') (cs := r)
      simp [put, e, ih]
theorem mem_put {p a : Addr} {m x : MO} : ∀ {cs : Cs}, (adr cs).Nodup → (a, x) ∈ put p m cs → (a = p ∧ x = m) ∨ (a ≠ p ∧ (a, x) ∈ cs)
  | [], _, h => by cases h
  | (b, y) :: r, nd, h => by
    have nd' : (b :: adr r).Nodup := nd
    obtain ⟨n1, n2⟩ := List.nodup_cons.mp nd'
    unfold put at h
    split at h
    · rename_i e
      rcases List.mem_cons.mp h with q | q
      · cases q; exact .inl ⟨e, rfl⟩
      · refine .inr ⟨fun z => n1 ?_, List.mem_cons_of_mem _ q⟩
        rw [e, ← z]; exact List.mem_map.mpr ⟨(a, x), q, rfl⟩
    · rename_i e
      rcases List.mem_cons.mp h with q | q
      · cases q; exact .inr ⟨e, List.mem_cons_self ..⟩
      · rcases mem_put n2 q with z | z
        · exact .inl z
        · exact .inr ⟨z.1, List.mem_cons_of_mem _ z.2⟩
theorem Sta.put (s : Sta K F G0 cs H) (hl : look p cs = some m) {m' : MO} {o' : HO} (q : MoOk K (pur F cs H) m' o') : Sta K F (pur F cs H) (put p m' cs) (upd H p o') := by
  have hp : p ∈ adr cs := List.mem_map.mpr ⟨(p, m), look_mem hl, rfl⟩
  have hF := s.ap p hp
  have e : pur F (DL.put p m' cs) (upd H p o') = pur F cs H := by
    funext b
    unfold pur
    rw [adr_put]
    by_cases hb : b = p
    · subst hb
      rw [if_pos (.inr hp), if_pos (.inr hp)]
    · rw [upd_ne hb]
  refine ⟨fun b u h => ?_, by rw [e]; exact Ex.refl _, by rw [adr_put]; exact s.nd, by rw [adr_put]; exact s.ap, fun a x hx => ?_, s.ft⟩
  · rw [upd_ne (fun z => by rw [z, hF] at h; cases h)]; exact s.fr b u h
  · rw [e]
    rcases mem_put s.nd hx with ⟨e1, e2⟩ | ⟨e1, e2⟩
    · subst e1 e2; exact ⟨o', upd_same, q⟩
    · obtain ⟨u, hu, r⟩ := s.ow a x e2
      exact ⟨u, by rw [upd_ne e1]; exact hu, r⟩
theorem Sta.look (s : Sta K F G0 cs H) (hl : DL.look p cs = some m) : ∃ o, H p = some o ∧ MoOk K (pur F cs H) m o := s.ow p m (look_mem hl)
end
abbrev Env := List (Option D)
structure Exn where
  cls : Str
  fs : List (Str × D)
abbrev XZ := Exn → Cs → Prop
abbrev DP := D → Cs → Prop
abbrev WE := Env → Cs → DP → XZ → Prop
abbrev WT := Env → Cs → (Bool → Cs → Prop) → XZ → Prop
abbrev WA := Env → Cs → (List D → Cs → Prop) → XZ → Prop
structure Fin where
  nx : Env → Cs → Prop
  rt : D → Cs → Prop
  ex : Exn → Env → Cs → Prop := fun _ _ _ => False
  bk : Env → Cs → Prop := fun _ _ => False
  ct : Env → Cs → Prop := fun _ _ => False
abbrev WS := Fin → Env → Cs → Prop
inductive RepO (K : PySem.W.Frag) (G : Hp) : Option V → Option D → Prop
  | skip {o : Option V} : RepO K G o none
  | held {v : V} {d : D} : Rep K G v d → RepO K G (some v) (some d)
inductive RepE (K : PySem.W.Frag) (G : Hp) : St → Env → Prop
  | nil : RepE K G [] []
  | cons {v : Option V} {d : Option D} {σ : St} {ρ : Env} : RepO K G v d → RepE K G σ ρ → RepE K G (v :: σ) (d :: ρ)
section
variable {K : PySem.W.Frag} {G G' : Hp}
theorem RepO.mono (e : Ex G G') {v : Option V} {d : Option D} : RepO K G v d → RepO K G' v d
  | .skip => .skip
  | .held h => .held (h.mono e)
theorem RepE.mono (e : Ex G G') : ∀ {σ : St} {ρ : Env}, RepE K G σ ρ → RepE K G' σ ρ
  | _, _, .nil => .nil
  | _, _, .cons h r => .cons (h.mono e) (r.mono e)
theorem RepE.get : ∀ {σ : St} {ρ : Env} {i : Nat} {d : D}, RepE K G σ ρ → ρ[i]? = some (some d) → ∃ v, σ[i]? = some (some v) ∧ Rep K G v d
  | _, _, _, _, .nil, e => by simp at e
  | _, _, 0, _, .cons h _, e => by
    simp at e; subst e
    cases h with
    | held h => exact ⟨_, rfl, h⟩
  | _, _, i + 1, d, .cons _ r, e => by
    obtain ⟨u, h1, h2⟩ := RepE.get (i := i) (d := d) r (by simpa using e)
    exact ⟨u, by simpa using h1, h2⟩
theorem RepE.set {v : V} {d : D} (h : Rep K G v d) : ∀ {σ : St} {ρ : Env} (i : Nat), RepE K G σ ρ → RepE K G (σ.set i (some v)) (ρ.set i (some d))
  | _, _, _, .nil => .nil
  | _, _, 0, .cons _ r => .cons (.held h) r
  | _, _, i + 1, .cons q r => .cons q (r.set h i)
theorem RepE.start : ∀ {vs : List V} {ds : List D} (n : Nat), RepL K G vs ds → RepE K G (vs.map some ++ List.replicate n none) (ds.map some ++ List.replicate n none)
  | _, _, n, .nil => by
    induction n with
    | zero => exact .nil
    | succ n ih => exact .cons .skip ih
  | _, _, n, .cons h r => .cons (.held h) (RepE.start n r)
end
/-- an exception's dict -/
def XR (K : PySem.W.Frag) (G : Hp) (d : Option Addr) (fs : List (Str × D)) : Prop := ∃ a xs, d = some a ∧ G a = some (.xd xs) ∧ RepX K G xs fs
theorem XR.mono {K : PySem.W.Frag} {G G' : Hp} {d : Option Addr} {fs : List (Str × D)} (h : XR K G d fs) (e : Ex G G') : XR K G' d fs := by
  obtain ⟨a, xs, e1, e2, e3⟩ := h
  exact ⟨a, xs, e1, e _ _ e2, e3.mono e⟩
/-- what is due behind: by value, by exception -/
def PostE (K : PySem.W.Frag) (F G : Hp) (P : DP) (Q : VK) : Prop := ∀ H' cs' v d, Sta K F G cs' H' → Rep K (pur F cs' H') v d → P d cs' → Q v H'
def PostX (K : PySem.W.Frag) (F G : Hp) (Z : XZ) (W : Value → Option Addr → Hp → Prop) : Prop := ∀ H' cs' x d, Sta K F G cs' H' → XR K (pur F cs' H') d x.fs → Z x cs' → W (.ref (He.ga K x.cls)) d H'
theorem PostE.le {K : PySem.W.Frag} {F G G' : Hp} {P : DP} {Q : VK} (h : PostE K F G P Q) (e : Ex G G') : PostE K F G' P Q := fun H' cs' v d s r p => h H' cs' v d (s.from_ e) r p
theorem PostX.le {K : PySem.W.Frag} {F G G' : Hp} {Z : XZ} {W : Value → Option Addr → Hp → Prop} (h : PostX K F G Z W) (e : Ex G G') : PostX K F G' Z W := fun H' cs' x d s r p => h H' cs' x d (s.from_ e) r p
def lE (K : PySem.W.Frag) (W : WX) (w : WE) : TE := fun σ H Q => ∃ F cs ρ P Z, Sta K F (pur F cs H) cs H ∧ RepE K (pur F cs H) σ ρ ∧ w ρ cs P Z ∧ PostE K F (pur F cs H) P Q ∧ PostX K F (pur F cs H) Z fun c d H' => W c d σ H'
def lT (K : PySem.W.Frag) (W : WX) (w : WT) : TT := fun σ H Q => ∃ F cs ρ P Z, Sta K F (pur F cs H) cs H ∧ RepE K (pur F cs H) σ ρ ∧ w ρ cs P Z ∧ (∀ H' cs' b, Sta K F (pur F cs H) cs' H' → P b cs' → Q b H') ∧ PostX K F (pur F cs H) Z fun c d H' => W c d σ H'
def lA (K : PySem.W.Frag) (W : WX) (n : Nat) (w : WA) : TA := fun σ H Q => ∃ F cs ρ P Z, Sta K F (pur F cs H) cs H ∧ RepE K (pur F cs H) σ ρ ∧ w ρ cs P Z ∧
  (∀ H' cs' vs ds, Sta K F (pur F cs H) cs' H' → RepL K (pur F cs' H') vs ds → ds.length = n → P ds cs' → Q vs H') ∧ PostX K F (pur F cs H) Z fun c d H' => W c d σ H'
structure PostS (K : PySem.W.Frag) (F G : Hp) (W : WX) (f : Fin) (E : Ends) : Prop where
  nx : ∀ H' cs' σ' ρ', Sta K F G cs' H' → RepE K (pur F cs' H') σ' ρ' → f.nx ρ' cs' → E.nx σ' H'
  bk : ∀ H' cs' σ' ρ', Sta K F G cs' H' → RepE K (pur F cs' H') σ' ρ' → f.bk ρ' cs' → E.bk σ' H'
  ct : ∀ H' cs' σ' ρ', Sta K F G cs' H' → RepE K (pur F cs' H') σ' ρ' → f.ct ρ' cs' → E.ct σ' H'
  rt : PostE K F G f.rt E.rt
  ex : ∀ H' cs' σ' ρ' x d, Sta K F G cs' H' → RepE K (pur F cs' H') σ' ρ' → XR K (pur F cs' H') d x.fs → f.ex x ρ' cs' → W (.ref (He.ga K x.cls)) d σ' H'
theorem PostS.le {K : PySem.W.Frag} {F G G' : Hp} {W : WX} {f : Fin} {E : Ends} (h : PostS K F G W f E) (e : Ex G G') : PostS K F G' W f E :=
  ⟨fun H' cs' σ' ρ' s => h.nx H' cs' σ' ρ' (s.from_ e), fun H' cs' σ' ρ' s => h.bk H' cs' σ' ρ' (s.from_ e), fun H' cs' σ' ρ' s => h.ct H' cs' σ' ρ' (s.from_ e), h.rt.le e, fun H' cs' σ' ρ' x d s => h.ex H' cs' σ' ρ' x d (s.from_ e)⟩
def lS (K : PySem.W.Frag) (W : WX) (w : WS) : TS := fun E σ H => ∃ F cs ρ f, Sta K F (pur F cs H) cs H ∧ RepE K (pur F cs H) σ ρ ∧ w f ρ cs ∧ PostS K F (pur F cs H) W f E
abbrev DE (X : Cx) (W : WX) (e : Expr) (w : WE) : Prop := PE X e (lE X.K W w)
abbrev DT (X : Cx) (W : WX) (e : Expr) (w : WT) : Prop := PT X e (lT X.K W w)
abbrev DW (X : Cx) (W : WX) (e : Expr) (w : WT) : Prop := PW X e (lT X.K W w)
abbrev DA (X : Cx) (W : WX) (es : List Expr) (w : WA) : Prop := PA X es (lA X.K W es.length w)
abbrev DS (X : Cx) (W : WX) (st : Stmt) (w : WS) : Prop := PS X st (lS X.K W w)
abbrev DSs (X : Cx) (W : WX) (st : List Stmt) (w : WS) : Prop := PSs X st (lS X.K W w)
theorem PE.imp {X : Cx} {e : Expr} {t t' : TE} (h : PE X e t) (i : ∀ σ H Q, t' σ H Q → t σ H Q) : PE X e t' := ⟨fun pins s σ H Q I q => h.run pins s σ H Q I (i σ H Q q)⟩
theorem PT.imp {X : Cx} {e : Expr} {t t' : TT} (h : PT X e t) (i : ∀ σ H Q, t' σ H Q → t σ H Q) : PT X e t' := ⟨fun pins s σ H Q I q => h.run pins s σ H Q I (i σ H Q q)⟩
theorem PW.imp {X : Cx} {e : Expr} {t t' : TT} (h : PW X e t) (i : ∀ σ H Q, t' σ H Q → t σ H Q) : PW X e t' := ⟨fun wh pins s σ H Q I q => h.run wh pins s σ H Q I (i σ H Q q)⟩
theorem PA.imp {X : Cx} {e : List Expr} {t t' : TA} (h : PA X e t) (i : ∀ σ H Q, t' σ H Q → t σ H Q) : PA X e t' := ⟨fun pos pins s σ H Q I q => h.run pos pins s σ H Q I (i σ H Q q)⟩
theorem PS.imp {X : Cx} {st : Stmt} {t t' : TS} (h : PS X st t) (i : ∀ E σ H, t' E σ H → t E σ H) : PS X st t' := ⟨fun pins s σ H E I q => h.run pins s σ H E I (i E σ H q)⟩
theorem PSs.imp {X : Cx} {st : List Stmt} {t t' : TS} (h : PSs X st t) (i : ∀ E σ H, t' E σ H → t E σ H) : PSs X st t' := ⟨fun pins s σ H E I q => h.run pins s σ H E I (i E σ H q)⟩
end DL
namespace DL
open PySem L2
section
variable {X : Cx} {W : WX} {K : PySem.W.Frag} {σ : St} {H : Hp}
def wVar (i : Nat) : WE := fun ρ cs P _ => match ρ[i]? with
  | some (some d) => P d cs
  | _ => False
theorem d_var (i : Nat) {x : Str} {pos : Pos} (hN : X.N[i]? = some x := by rfl) (hv : Vis X.env.scope x := by first | exact Or.inl rfl | exact Or.inr (Or.inl rfl) | exact Or.inr (Or.inr rfl)) (hd : (x == ("__debug__" : Str)) = false := by decide)
    (hcd : (x == ("__classdict__" : Str)) = false := by decide) : DE X W (.Name x pos) (wVar i) :=
  PE.imp (pe_var (i := i) hN hv hd hcd) fun σ H Q ⟨F, cs, ρ, P, Z, s, re, hw, pe, px⟩ => by
    unfold wVar at hw
    split at hw
    · rename_i d e
      obtain ⟨v, h1, h2⟩ := re.get e
      exact ⟨v, h1, pe H cs v d s h2 hw⟩
    · exact hw.elim
def wC (d : D) : WE := fun _ cs P _ => P d cs
theorem d_of {e : Expr} {v : V} {d : D} (h : PE X e (tC v)) (r : ∀ G, Rep X.K G v d) : DE X W e (wC d) :=
  PE.imp h fun σ H Q ⟨F, cs, ρ, P, Z, s, re, hw, pe, px⟩ => pe H cs v d s (r _) hw
theorem d_int {i j pos} : DE X W (.Constant (.int i) j pos) (wC (.int i)) := d_of pe_int fun _ => .int _
theorem d_bl {b j pos} : DE X W (.Constant (.bool b) j pos) (wC (.bl b)) := d_of pe_bl fun _ => .bl _
theorem d_non {j pos} : DE X W (.Constant .none j pos) (wC .non) := d_of pe_non fun _ => .non
theorem d_str {x j pos} : DE X W (.Constant (.str x) j pos) (wC (.str x)) := d_of pe_str fun _ => .str _
abbrev DO2 := D → D → Cs → DP → Prop
def Adq (K : PySem.W.Frag) (r : R2) (o : DO2) : Prop := ∀ F cs H x y dx dy P Q, Sta K F (pur F cs H) cs H → Rep K (pur F cs H) x dx → Rep K (pur F cs H) y dy → o dx dy cs P → PostE K F (pur F cs H) P Q → r x y H Q
def wOp (o : DO2) (wa wb : WE) : WE := fun ρ cs P Z => wa ρ cs (fun x cs1 => wb ρ cs1 (fun y cs2 => o x y cs2 P) Z) Z
theorem bin_ok {r : R2} {o : DO2} {wa wb : WE} (adq : Adq K r o) {Q : VK} : lE K W (wOp o wa wb) σ H Q → tOp r (lE K W wa) (lE K W wb) σ H Q := by
  rintro ⟨F, cs, ρ, P, Z, s, re, hw, pe, px⟩
  refine ⟨F, cs, ρ, _, Z, s, re, hw, fun H1 cs1 v d s1 r1 h1 => ?_, px⟩
  refine ⟨F, cs1, ρ, _, Z, s1.self, re.mono s1.gr, h1, fun H2 cs2 v2 d2 s2 r2 h2 => ?_, px.le s1.gr⟩
  exact adq F cs2 H2 v v2 d d2 P Q s2.self (r1.mono s2.gr) r2 h2 (pe.le (s1.gr.trans s2.gr))
theorem d_op {op : Operator} {r : R2} {o : DO2} {a b : Expr} {wa wb : WE} {pos : Pos} (ho : OpR X (binaryOp op) r) (adq : Adq X.K r o) (ha : DE X W a wa) (hb : DE X W b wb) : DE X W (.BinOp a op b pos) (wOp o wa wb) :=
  PE.imp (pe_op ho ha hb) fun _ _ _ h => bin_ok adq h
theorem d_cmp {op : CmpOp} {r : R2} {o : DO2} {a b : Expr} {wa wb : WE} {pos : Pos} (ho : OpR X (compareOp op) r) (adq : Adq X.K r o) (ha : DE X W a wa) (hb : DE X W b wb) (hm : behindInMarks op b = false) : DE X W (.Compare a [op] [b] pos) (wOp o wa wb) :=
  PE.imp (pe_cmpR ho ha hb hm) fun _ _ _ h => bin_ok adq h
theorem d_ix {r : R2} {o : DO2} {a b : Expr} {wa wb : WE} {pos : Pos} (ho : IxR X r) (adq : Adq X.K r o) (ha : DE X W a wa) (hb : DE X W b wb) (hs : PlainIx b := by intro _ _; rfl) : DE X W (.Subscript a b pos) (wOp o wa wb) :=
  PE.imp (pe_ix ho ha hb hs) fun _ _ _ h => bin_ok adq h
def oI (g : Int → Int → D) : DO2 := fun x y cs P => match x, y with
  | .int i, .int j => P (g i j) cs
  | _, _ => False
def oIC (C : Int → Int → Prop) (g : Int → Int → D) : DO2 := fun x y cs P => match x, y with
  | .int i, .int j => C i j ∧ P (g i j) cs
  | _, _ => False
theorem adq_I0 {g : Int → Int → V} {g' : Int → Int → D} (h : ∀ i j G, Rep K G (g i j) (g' i j)) : Adq K (rI0 g) (oI g') := fun F cs H x y dx dy P Q s rx ry ho pe => by
  unfold oI at ho
  split at ho
  · cases rx; cases ry; exact ⟨_, _, rfl, rfl, pe H cs _ _ s (h _ _ _) ho⟩
  · exact ho.elim
theorem adq_I {C : Int → Int → Prop} {g : Int → Int → V} {g' : Int → Int → D} (h : ∀ i j G, Rep K G (g i j) (g' i j)) : Adq K (rI C g) (oIC C g') := fun F cs H x y dx dy P Q s rx ry ho pe => by
  unfold oIC at ho
  split at ho
  · cases rx; cases ry; exact ⟨_, _, rfl, rfl, ho.1, pe H cs _ _ s (h _ _ _) ho.2⟩
  · exact ho.elim
theorem op_mulX : OpR X (binaryOp .Mult) (rI IntMulOk fun i j => .int (i * j)) := opI fun _ _ _ _ _ _ _ hc q => PyProof.Rows.mul_int q hc
variable {a b : Expr} {wa wb : WE} {pos : Pos}
def oAdd : DO2 := oI fun i j => .int (i + j)
def oSub : DO2 := oI fun i j => .int (i - j)
def oMul : DO2 := oIC IntMulOk fun i j => .int (i * j)
def oDiv : DO2 := oIC CDivW fun i j => .int (i / j)
def oMod : DO2 := oIC (fun _ j => 0 < j) fun i j => .int (i % j)
def oPow : DO2 := oIC CPow fun i j => .int (i ^ j.toNat)
theorem d_add (ha : DE X W a wa) (hb : DE X W b wb) : DE X W (.BinOp a .Add b pos) (wOp oAdd wa wb) := d_op op_add (adq_I0 fun _ _ _ => .int _) ha hb
theorem d_sub (ha : DE X W a wa) (hb : DE X W b wb) : DE X W (.BinOp a .Sub b pos) (wOp oSub wa wb) := d_op op_sub (adq_I0 fun _ _ _ => .int _) ha hb
theorem d_mul (ha : DE X W a wa) (hb : DE X W b wb) : DE X W (.BinOp a .Mult b pos) (wOp oMul wa wb) := d_op op_mulX (adq_I fun _ _ _ => .int _) ha hb
theorem d_fdiv (ha : DE X W a wa) (hb : DE X W b wb) : DE X W (.BinOp a .FloorDiv b pos) (wOp oDiv wa wb) := d_op op_fdivW (adq_I fun _ _ _ => .int _) ha hb
theorem d_mod (ha : DE X W a wa) (hb : DE X W b wb) : DE X W (.BinOp a .Mod b pos) (wOp oMod wa wb) := d_op op_mod (adq_I fun _ _ _ => .int _) ha hb
theorem d_pow (ha : DE X W a wa) (hb : DE X W b wb) : DE X W (.BinOp a .Pow b pos) (wOp oPow wa wb) := d_op op_pow (adq_I fun _ _ _ => .int _) ha hb
def oLt : DO2 := oI fun i j => .bl (decide (i < j))
def oLe : DO2 := oI fun i j => .bl (decide (i ≤ j))
def oGt : DO2 := oI fun i j => .bl (decide (j < i))
def oGe : DO2 := oI fun i j => .bl (decide (j ≤ i))
theorem d_lt (ha : DE X W a wa) (hb : DE X W b wb) : DE X W (.Compare a [.Lt] [b] pos) (wOp oLt wa wb) := d_cmp op_lt (adq_I0 fun _ _ _ => .bl _) ha hb (nomark _)
theorem d_gt (ha : DE X W a wa) (hb : DE X W b wb) : DE X W (.Compare a [.Gt] [b] pos) (wOp oGt wa wb) := d_cmp op_gt (adq_I0 fun _ _ _ => .bl _) ha hb (nomark _)
def wUn (o : D → Cs → DP → Prop) (wa : WE) : WE := fun ρ cs P Z => wa ρ cs (fun x cs1 => o x cs1 P) Z
def oNeg : D → Cs → DP → Prop := fun x cs P => match x with
  | .int i => P (.int (-i)) cs
  | _ => False
theorem oNeg_inv {x : D} {cs : Cs} {P : DP} (h : oNeg x cs P) : ∃ i, x = .int i ∧ P (.int (-i)) cs := by
  cases x <;> first | exact h.elim | exact ⟨_, rfl, h⟩
theorem d_neg (ha : DE X W a wa) : DE X W (.UnaryOp .USub a pos) (wUn oNeg wa) := PE.imp (pe_un un_neg ha) fun σ H Q ⟨F, cs, ρ, P, Z, s, re, hw, pe, px⟩ =>
  ⟨F, cs, ρ, _, Z, s, re, hw, fun H1 cs1 v d s1 r1 h1 => by
    obtain ⟨i, rfl, h⟩ := oNeg_inv h1
    cases r1
    exact ⟨_, rfl, pe H1 cs1 _ _ s1 (.int _) h⟩, px⟩
mutual
def pyD : D → PyData
  | .bl b => .bool b
  | .int i => .int i
  | .str x => .str x
  | .tup xs => .tuple (pyL xs)
  | .lst xs => .list (pyL xs)
  | .non | .dic _ | .dct _ | .opq _ | .ins _ _ | .xcp _ _ _ _ => .none
def pyL : List D → List PyData
  | [] => []
  | d :: ds => pyD d :: pyL ds
end
mutual
/-- plain data: no dict, nothing opaque, at most n levels of lists and tuples -/
def plD : Nat → D → Bool
  | n + 1, .tup xs => decide (xs.length ≤ 100000) && plL n xs
  | n + 1, .lst xs => decide (xs.length ≤ 100000) && plL n xs
  | _, .non | _, .bl _ | _, .int _ | _, .str _ => true
  | _, _ => false
def plL : Nat → List D → Bool
  | _, [] => true
  | n, d :: ds => plD n d && plL n ds
end
theorem plD_t {n : Nat} {xs : List D} (h : plD (n + 1) (.tup xs) = true) : plL n xs = true := by
  simp only [plD, Bool.and_eq_true] at h; exact h.2
theorem plD_l {n : Nat} {xs : List D} (h : plD (n + 1) (.lst xs) = true) : plL n xs = true := by
  simp only [plD, Bool.and_eq_true] at h; exact h.2
theorem plD_tn {n : Nat} {xs : List D} (h : plD (n + 1) (.tup xs) = true) : xs.length ≤ 100000 := by
  simp only [plD, Bool.and_eq_true, decide_eq_true_eq] at h; exact h.1
theorem plD_ln {n : Nat} {xs : List D} (h : plD (n + 1) (.lst xs) = true) : xs.length ≤ 100000 := by
  simp only [plD, Bool.and_eq_true, decide_eq_true_eq] at h; exact h.1
theorem plD_tI {n : Nat} {xs : List D} (h : plL n xs = true) (hl : xs.length ≤ 100000) : plD (n + 1) (.tup xs) = true := by
  simp only [plD, Bool.and_eq_true, decide_eq_true_eq]; exact ⟨hl, h⟩
theorem plD_lI {n : Nat} {xs : List D} (h : plL n xs = true) (hl : xs.length ≤ 100000) : plD (n + 1) (.lst xs) = true := by
  simp only [plD, Bool.and_eq_true, decide_eq_true_eq]; exact ⟨hl, h⟩
mutual
def eqD : D → D → Bool
  | .non, .non => true
  | .bl a, .bl b => a == b
  | .bl a, .int j => (if a then 1 else 0) == j
  | .int i, .bl b => i == (if b then 1 else 0)
  | .int i, .int j => i == j
  | .str x, .str y => x == y
  | .lst xs, .lst ys => eqL xs ys
  | .tup xs, .tup ys => eqL xs ys
  | _, _ => false
def eqL : List D → List D → Bool
  | [], [] => true
  | x :: xs, y :: ys => eqD x y && eqL xs ys
  | _, _ => false
end
mutual
theorem plD_plain : ∀ (d : D) (n : Nat), plD n d = true → (pyD d).plain = true ∧ (pyD d).depth ≤ n
  | .non, n, _ => ⟨by simp [pyD, PyData.plain], by simp [pyD, PyData.depth]⟩
  | .bl _, n, _ => ⟨by simp [pyD, PyData.plain], by simp [pyD, PyData.depth]⟩
  | .int _, n, _ => ⟨by simp [pyD, PyData.plain], by simp [pyD, PyData.depth]⟩
  | .str _, n, _ => ⟨by simp [pyD, PyData.plain], by simp [pyD, PyData.depth]⟩
  | .tup xs, 0, h => by simp [plD] at h
  | .lst xs, 0, h => by simp [plD] at h
  | .tup xs, n + 1, h => by
    have h' := plL_plain xs n (plD_t h)
    simp only [pyD, PyData.plain, PyData.depth]
    exact ⟨h'.1, Nat.succ_le_succ h'.2⟩
  | .lst xs, n + 1, h => by
    have h' := plL_plain xs n (plD_l h)
    simp only [pyD, PyData.plain, PyData.depth]
    exact ⟨h'.1, Nat.succ_le_succ h'.2⟩
  | .dic _, n, h => by cases n <;> simp [plD] at h
  | .dct _, n, h => by cases n <;> simp [plD] at h
  | .ins _ _, n, h => by cases n <;> simp [plD] at h
  | .xcp _ _ _ _, n, h => by cases n <;> simp [plD] at h
  | .opq _, n, h => by cases n <;> simp [plD] at h
theorem plL_plain : ∀ (ds : List D) (n : Nat), plL n ds = true → PyData.plainAll (pyL ds) = true ∧ PyData.depthAll (pyL ds) ≤ n
  | [], n, _ => ⟨by simp [pyL, PyData.plainAll], by simp [pyL, PyData.depthAll]⟩
  | d :: ds, n, h => by
    simp only [plL, Bool.and_eq_true] at h
    have h1 := plD_plain d n h.1
    have h2 := plL_plain ds n h.2
    simp only [pyL, PyData.plainAll, PyData.depthAll, Bool.and_eq_true]
    exact ⟨⟨h1.1, h2.1⟩, Nat.max_le.mpr ⟨h1.2, h2.2⟩⟩
end
mutual
theorem eqD_eqv : ∀ (d e : D) (n m : Nat), plD n d = true → plD m e = true → PyData.eqv (pyD d) (pyD e) = eqD d e := by
  intro d e n m hd he
  cases d <;> cases e <;> first
    | (simp [pyD, PyData.eqv, eqD]; done)
    | (cases n <;> simp [plD] at hd; done)
    | (cases m <;> simp [plD] at he; done)
    | (cases n with
       | zero => simp [plD] at hd
       | succ n => cases m with
         | zero => simp [plD] at he
         | succ m => simp only [pyD, PyData.eqv, eqD]; exact eqL_eqv _ _ n m (by first | exact plD_t hd | exact plD_l hd) (by first | exact plD_t he | exact plD_l he))
theorem eqL_eqv : ∀ (d e : List D) (n m : Nat), plL n d = true → plL m e = true → PyData.eqvAll (pyL d) (pyL e) = eqL d e
  | [], [], _, _, _, _ => by simp [pyL, PyData.eqvAll, eqL]
  | [], _ :: _, _, _, _, _ => by simp [pyL, PyData.eqvAll, eqL]
  | _ :: _, [], _, _, _, _ => by simp [pyL, PyData.eqvAll, eqL]
  | d :: ds, e :: es, n, m, hd, he => by
    simp only [plL, Bool.and_eq_true] at hd he
    simp only [pyL, PyData.eqvAll, eqL]
    rw [eqD_eqv d e n m hd.1 he.1, eqL_eqv ds es n m hd.2 he.2]
end
mutual
theorem Rep.dp {G : Hp} (e : Ex G H) : ∀ {v : V} {d : D} (n : Nat), Rep K G v d → plD n d = true → Dp K H v (pyD d)
  | _, _, n, .non, _ => .non
  | _, _, n, .bl b, _ => .bl b
  | _, _, n, .int i, _ => .int i
  | _, _, n, .str x, _ => .str x
  | _, _, n, .opq v, h => by cases n <;> simp [plD] at h
  | _, _, 0, .lst h r, p => by simp [plD] at p
  | _, _, 0, .tup h r, p => by simp [plD] at p
  | _, _, n + 1, .lst h r, p => by
    simp only [pyD]
    exact .lst (ex_l e h) (RepL.dp e n r (plD_l p))
  | _, _, n + 1, .tup h r, p => by
    simp only [pyD]
    exact .tup (ex_t e h) (RepL.dp e n r (plD_t p))
  | _, _, n, .dic _ _, h => by cases n <;> simp [plD] at h
  | _, _, n, .dct _ _, h => by cases n <;> simp [plD] at h
  | _, _, n, .ins _ _ _, h => by cases n <;> simp [plD] at h
  | _, _, n, .xcp _ _, h => by cases n <;> simp [plD] at h
theorem RepL.dp {G : Hp} (e : Ex G H) : ∀ {v : List V} {d : List D} (n : Nat), RepL K G v d → plL n d = true → DpAll K H v (pyL d)
  | _, _, _, .nil, _ => by simp only [pyL]; exact .nil
  | _, _, n, .cons h r, p => by
    simp only [plL, Bool.and_eq_true] at p
    simp only [pyL]
    exact .cons (Rep.dp e n h p.1) (RepL.dp e n r p.2)
end
theorem pur_le {F : Hp} {cs : Cs} : Ex (pur F cs H) H := fun _ _ h => (pur_of h).1
/-- x == y of plain data -/
def oEq : DO2 := fun x y cs P => plD 20 x = true ∧ plD 20 y = true ∧ P (.bl (eqD x y)) cs
def oNe : DO2 := fun x y cs P => plD 20 x = true ∧ plD 20 y = true ∧ P (.bl (!eqD x y)) cs
def rEqP (K : PySem.W.Frag) : R2 := fun x y H Q => ∃ d e, Dp K H x d ∧ Dp K H y e ∧ d.plain = true ∧ e.plain = true ∧ d.depth ≤ 64 ∧ Q (.bl (PyData.eqv d e)) H
def rNeP (K : PySem.W.Frag) : R2 := fun x y H Q => ∃ d e, Dp K H x d ∧ Dp K H y e ∧ d.plain = true ∧ e.plain = true ∧ d.depth ≤ 64 ∧ Q (.bl (!PyData.eqv d e)) H
theorem room_plain {A : Around} {da db : PyData} (h : da.depth ≤ 64) (hu : A.units + 64 < cLine) : A.units + min da.depth db.depth < cLine := by
  have h2 : min da.depth db.depth ≤ da.depth := Nat.min_le_left _ _
  omega
theorem op_eqP (hu : X.A.units + 64 < cLine) : OpR X (compareOp .Eq) (rEqP X.K) := by
  intro pins s σ H x y v u Q I rx ry h
  obtain ⟨d, e, hd, he, p1, p2, p3, q⟩ := h
  obtain ⟨as, r1⟩ := Dp.reads I d x v hd rx
  obtain ⟨bs, r2⟩ := Dp.reads I e y u he ry
  exact PySem.SeqAt.eq_plain r1 r2 p1 p2 (room_plain p3 hu) ⟨.bl _, H, I, rfl, q⟩
theorem op_neP (hu : X.A.units + 64 < cLine) : OpR X (compareOp .NotEq) (rNeP X.K) := by
  intro pins s σ H x y v u Q I rx ry h
  obtain ⟨d, e, hd, he, p1, p2, p3, q⟩ := h
  obtain ⟨as, r1⟩ := Dp.reads I d x v hd rx
  obtain ⟨bs, r2⟩ := Dp.reads I e y u he ry
  exact PySem.SeqAt.ne_plain r1 r2 p1 p2 (room_plain p3 hu) ⟨.bl _, H, I, rfl, q⟩
theorem adq_eq : Adq K (rEqP K) oEq := fun F cs H x y dx dy P Q s rx ry ho pe => by
  obtain ⟨p1, p2, h⟩ := ho
  have a1 := plD_plain dx 20 p1
  have a2 := plD_plain dy 20 p2
  refine ⟨_, _, Rep.dp pur_le 20 rx p1, Rep.dp pur_le 20 ry p2, a1.1, a2.1, Nat.le_trans a1.2 (by decide), ?_⟩
  rw [eqD_eqv dx dy 20 20 p1 p2]
  exact pe H cs _ _ s (.bl _) h
theorem adq_ne : Adq K (rNeP K) oNe := fun F cs H x y dx dy P Q s rx ry ho pe => by
  obtain ⟨p1, p2, h⟩ := ho
  have a1 := plD_plain dx 20 p1
  have a2 := plD_plain dy 20 p2
  refine ⟨_, _, Rep.dp pur_le 20 rx p1, Rep.dp pur_le 20 ry p2, a1.1, a2.1, Nat.le_trans a1.2 (by decide), ?_⟩
  rw [eqD_eqv dx dy 20 20 p1 p2]
  exact pe H cs _ _ s (.bl _) h
theorem d_eq (hu : X.A.units + 64 < cLine) (ha : DE X W a wa) (hb : DE X W b wb) : DE X W (.Compare a [.Eq] [b] pos) (wOp oEq wa wb) := d_cmp (op_eqP hu) adq_eq ha hb (nomark _)
def atD (xs : List D) (i : Int) : Option D := atI xs i
def oIx : DO2 := fun x y cs P => match x, y with
  | .tup xs, .int i => (match atD xs i with
    | some d => P d cs
    | none => False)
  | .lst xs, .int i => (match atD xs i with
    | some d => P d cs
    | none => False)
  | _, _ => False
theorem RepL.atI {G : Hp} {vs : List V} {ds : List D} {i : Int} {d : D} (r : RepL K G vs ds) (h : atI ds i = some d) : ∃ v, atI vs i = some v ∧ Rep K G v d := by
  unfold L2.atI at h ⊢
  rw [r.length]
  cases e : ixN ds.length i with
  | none => rw [e] at h; cases h
  | some j =>
    rw [e] at h
    exact r.get h
theorem adq_ix : Adq K (rIx K) oIx := fun F cs H x y dx dy P Q s rx ry ho pe => by
  unfold oIx at ho
  split at ho
  · rename_i xs i
    cases ry
    cases rx with
    | tup h r =>
      split at ho
      · rename_i d e
        obtain ⟨v, e1, e2⟩ := r.atI e
        exact .inr (.inl ⟨_, _, _, v, rfl, rfl, ex_t pur_le h, e1, pe H cs _ _ s e2 ho⟩)
      · exact ho.elim
  · rename_i xs i
    cases ry
    cases rx with
    | lst h r =>
      split at ho
      · rename_i d e
        obtain ⟨v, e1, e2⟩ := r.atI e
        exact .inl ⟨_, _, _, v, rfl, rfl, ex_l pur_le h, e1, pe H cs _ _ s e2 ho⟩
      · exact ho.elim
  · exact ho.elim
theorem d_sub_ix (ha : DE X W a wa) (hb : DE X W b wb) (hs : PlainIx b := by intro _ _; rfl) : DE X W (.Subscript a b pos) (wOp oIx wa wb) := d_ix ix_seq adq_ix ha hb hs
end
end DL
namespace DL
open PySem L2
section
variable {X : Cx} {W : WX} {K : PySem.W.Frag} {σ : St} {H : Hp} {a b c : Expr} {wa wb wc : WE} {pos : Pos}
def wTest (wa : WE) : WT := fun ρ cs P Z => wa ρ cs (fun x cs1 => match x with
  | .bl k => P k cs1
  | _ => False) Z
theorem test_inv {x : D} {cs : Cs} {P : Bool → Cs → Prop} (h : (match x with | D.bl k => P k cs | _ => False)) : ∃ k, x = .bl k ∧ P k cs := by
  cases x <;> first | exact h.elim | exact ⟨_, rfl, h⟩
/-- a comparison as a test -/
theorem dt_cmp {op : CmpOp} {r : R2} {o : DO2} (ho : OpR X (compareOp op) r) (adq : Adq X.K r o) (ha : DE X W a wa) (hb : DE X W b wb) (hm : behindInMarks op b = false) : DT X W (.Compare a [op] [b] pos) (wTest (wOp o wa wb)) :=
  PT.imp (pt_cmpR ho ha hb hm) fun σ H Q h => by
    obtain ⟨F, cs, ρ, P, Z, s, re, hw, pe, px⟩ := h
    have h2 : lE X.K W (wOp o wa wb) σ H (fun x H' => ∃ k, x = V.bl k ∧ Q k H') := ⟨F, cs, ρ, _, Z, s, re, hw, fun H1 cs1 v d s1 r1 h1 => by
      obtain ⟨k, rfl, h⟩ := test_inv h1
      cases r1
      exact ⟨k, rfl, pe H1 cs1 k s1 h⟩, px⟩
    exact bin_ok adq h2
theorem dt_lt (ha : DE X W a wa) (hb : DE X W b wb) : DT X W (.Compare a [.Lt] [b] pos) (wTest (wOp oLt wa wb)) := dt_cmp op_lt (adq_I0 fun _ _ _ => .bl _) ha hb (nomark _)
theorem dt_gt (ha : DE X W a wa) (hb : DE X W b wb) : DT X W (.Compare a [.Gt] [b] pos) (wTest (wOp oGt wa wb)) := dt_cmp op_gt (adq_I0 fun _ _ _ => .bl _) ha hb (nomark _)
theorem dt_ge (ha : DE X W a wa) (hb : DE X W b wb) : DT X W (.Compare a [.GtE] [b] pos) (wTest (wOp oGe wa wb)) := dt_cmp op_ge (adq_I0 fun _ _ _ => .bl _) ha hb (nomark _)
theorem dt_eq (hu : X.A.units + 64 < cLine) (ha : DE X W a wa) (hb : DE X W b wb) : DT X W (.Compare a [.Eq] [b] pos) (wTest (wOp oEq wa wb)) := dt_cmp (op_eqP hu) adq_eq ha hb (nomark _)
theorem dt_ne (hu : X.A.units + 64 < cLine) (ha : DE X W a wa) (hb : DE X W b wb) : DT X W (.Compare a [.NotEq] [b] pos) (wTest (wOp oNe wa wb)) := dt_cmp (op_neP hu) adq_ne ha hb (nomark _)
/-- an expression that gives a truth value, as a test -/
theorem dt_val {e : Expr} {w : WE} (h : DE X W e w) (he : ∀ whole, isTrue e X.env whole = (do let v ← whole; standAt e.pos; holding [v] (truthy v)) := by intro _; rfl) : DT X W e (wTest w) :=
  PT.imp (pt_val h he) fun σ H Q h => by
    obtain ⟨F, cs, ρ, P, Z, s, re, hw, pe, px⟩ := h
    refine ⟨F, cs, ρ, _, Z, s, re, hw, fun H1 cs1 v d s1 r1 h1 => ?_, px⟩
    obtain ⟨k, rfl, h⟩ := test_inv h1
    cases r1
    exact ⟨k, rfl, pe H1 cs1 k s1 h⟩
variable {ta tb : WT} {rest : List Expr}
def wAnd (ta tb : WT) : WT := fun ρ cs P Z => ta ρ cs (fun k cs1 => (k = true → tb ρ cs1 P Z) ∧ (k = false → P false cs1)) Z
def wOr (ta tb : WT) : WT := fun ρ cs P Z => ta ρ cs (fun k cs1 => (k = true → P true cs1) ∧ (k = false → tb ρ cs1 P Z)) Z
def wNot (ta : WT) : WT := fun ρ cs P Z => ta ρ cs (fun k cs1 => P (!k) cs1) Z
theorem dw_and1 (ha : DT X W a ta) : DW X W (.BoolOp .And [a] pos) ta := pw_and1 ha
theorem dw_or1 (ha : DT X W a ta) : DW X W (.BoolOp .Or [a] pos) ta := pw_or1 ha
theorem dw_and (ha : DT X W a ta) (hb : DW X W (.BoolOp .And (b :: rest) pos) tb) : DW X W (.BoolOp .And (a :: b :: rest) pos) (wAnd ta tb) :=
  PW.imp (pw_and ha hb) fun σ H Q h => by
    obtain ⟨F, cs, ρ, P, Z, s, re, hw, pe, px⟩ := h
    refine ⟨F, cs, ρ, _, Z, s, re, hw, fun H1 cs1 k s1 h1 => ?_, px⟩
    cases k with
    | true => exact iteT ⟨F, cs1, ρ, P, Z, s1.self, re.mono s1.gr, h1.1 rfl, fun H2 cs2 k s2 h2 => pe H2 cs2 k (s2.from_ s1.gr) h2, px.le s1.gr⟩
    | false => exact iteF (pe H1 cs1 false s1 (h1.2 rfl))
theorem dw_or (ha : DT X W a ta) (hb : DW X W (.BoolOp .Or (b :: rest) pos) tb) : DW X W (.BoolOp .Or (a :: b :: rest) pos) (wOr ta tb) :=
  PW.imp (pw_or ha hb) fun σ H Q h => by
    obtain ⟨F, cs, ρ, P, Z, s, re, hw, pe, px⟩ := h
    refine ⟨F, cs, ρ, _, Z, s, re, hw, fun H1 cs1 k s1 h1 => ?_, px⟩
    cases k with
    | false => exact iteF ⟨F, cs1, ρ, P, Z, s1.self, re.mono s1.gr, h1.2 rfl, fun H2 cs2 k s2 h2 => pe H2 cs2 k (s2.from_ s1.gr) h2, px.le s1.gr⟩
    | true => exact iteT (pe H1 cs1 true s1 (h1.1 rfl))
theorem dt_w {e : Expr} (h : DW X W e ta) : DT X W e ta := h.pt
theorem dt_not (ha : DT X W a ta) : DT X W (.UnaryOp .Not a pos) (wNot ta) :=
  PT.imp (pt_not ha) fun σ H Q h => by
    obtain ⟨F, cs, ρ, P, Z, s, re, hw, pe, px⟩ := h
    exact ⟨F, cs, ρ, _, Z, s, re, hw, fun H1 cs1 k s1 h1 => pe H1 cs1 _ s1 h1, px⟩
/-- as values -/
def wAndV (wa wb : WE) : WE := fun ρ cs P Z => wa ρ cs (fun x cs1 => match x with
  | .bl k => (k = true → wb ρ cs1 P Z) ∧ (k = false → P (.bl false) cs1)
  | _ => False) Z
def wOrV (wa wb : WE) : WE := fun ρ cs P Z => wa ρ cs (fun x cs1 => match x with
  | .bl k => (k = true → P (.bl true) cs1) ∧ (k = false → wb ρ cs1 P Z)
  | _ => False) Z
def wNotV (wa : WE) : WE := fun ρ cs P Z => wa ρ cs (fun x cs1 => match x with
  | .bl k => P (.bl (!k)) cs1
  | _ => False) Z
theorem d_one {op} (h : DE X W a wa) : DE X W (.BoolOp op [a] pos) wa := pe_one h
theorem d_and (ha : DE X W a wa) (hb : DE X W (.BoolOp .And (b :: rest) pos) wb) : DE X W (.BoolOp .And (a :: b :: rest) pos) (wAndV wa wb) :=
  PE.imp (pe_and ha hb) fun σ H Q h => by
    obtain ⟨F, cs, ρ, P, Z, s, re, hw, pe, px⟩ := h
    refine ⟨F, cs, ρ, _, Z, s, re, hw, fun H1 cs1 v d s1 r1 h1 => ?_, px⟩
    cases d <;> try exact h1.elim
    rename_i k
    cases r1
    cases k with
    | true => exact ⟨true, rfl, iteT ⟨F, cs1, ρ, P, Z, s1.self, re.mono s1.gr, h1.1 rfl, pe.le s1.gr, px.le s1.gr⟩⟩
    | false => exact ⟨false, rfl, iteF (pe H1 cs1 _ _ s1 (.bl _) (h1.2 rfl))⟩
theorem d_not (ha : DE X W a wa) : DE X W (.UnaryOp .Not a pos) (wNotV wa) :=
  PE.imp (pe_not ha) fun σ H Q h => by
    obtain ⟨F, cs, ρ, P, Z, s, re, hw, pe, px⟩ := h
    refine ⟨F, cs, ρ, _, Z, s, re, hw, fun H1 cs1 v d s1 r1 h1 => ?_, px⟩
    cases d <;> try exact h1.elim
    rename_i k
    cases r1
    exact ⟨k, rfl, pe H1 cs1 _ _ s1 (.bl _) h1⟩
def wIf (t : WT) (wa wb : WE) : WE := fun ρ cs P Z => t ρ cs (fun k cs1 => (k = true → wa ρ cs1 P Z) ∧ (k = false → wb ρ cs1 P Z)) Z
theorem d_if (hc : DT X W c ta) (ha : DE X W a wa) (hb : DE X W b wb) : DE X W (.IfExp c a b pos) (wIf ta wa wb) :=
  PE.imp (pe_ifExp hc ha hb) fun σ H Q h => by
    obtain ⟨F, cs, ρ, P, Z, s, re, hw, pe, px⟩ := h
    refine ⟨F, cs, ρ, _, Z, s, re, hw, fun H1 cs1 k s1 h1 => ?_, px⟩
    cases k with
    | true => exact iteT ⟨F, cs1, ρ, P, Z, s1.self, re.mono s1.gr, h1.1 rfl, pe.le s1.gr, px.le s1.gr⟩
    | false => exact iteF ⟨F, cs1, ρ, P, Z, s1.self, re.mono s1.gr, h1.2 rfl, pe.le s1.gr, px.le s1.gr⟩
variable {e : Expr} {es : List Expr} {we : WE} {w : WA}
def wNil : WA := fun _ cs P _ => P [] cs
def wCons (we : WE) (w : WA) : WA := fun ρ cs P Z => we ρ cs (fun x cs1 => w ρ cs1 (fun xs cs2 => P (x :: xs) cs2) Z) Z
theorem da_nil : DA X W [] wNil := PA.imp pa_nil fun σ H Q ⟨F, cs, ρ, P, Z, s, re, hw, pe, px⟩ => pe H cs [] [] s .nil rfl hw
theorem da_cons (ha : DE X W e we) (hr : DA X W es w) (hs : starEach (e :: es) X.env = (false, eval e X.env) :: starEach es X.env := by rfl) : DA X W (e :: es) (wCons we w) :=
  PA.imp (pa_cons ha hr hs) fun σ H Q h => by
    obtain ⟨F, cs, ρ, P, Z, s, re, hw, pe, px⟩ := h
    refine ⟨F, cs, ρ, _, Z, s, re, hw, fun H1 cs1 v d s1 r1 h1 => ?_, px⟩
    refine ⟨F, cs1, ρ, _, Z, s1.self, re.mono s1.gr, h1, fun H2 cs2 vs ds s2 r2 l2 h2 => ?_, px.le s1.gr⟩
    exact pe H2 cs2 _ _ (s2.from_ s1.gr) (.cons (r1.mono s2.gr) r2) (congrArg Nat.succ l2) h2
def wTup (w : WA) : WE := fun ρ cs P Z => w ρ cs (fun ds cs1 => P (.tup ds) cs1) Z
def wLst (w : WA) : WE := fun ρ cs P Z => w ρ cs (fun ds cs1 => P (.lst ds) cs1) Z
/-- a new list that will change -/
def wLstM (w : WA) : WE := fun ρ cs P Z => w ρ cs (fun ds cs1 => ∀ p, p ∉ adr cs1 → P (.opq (.ref p)) ((p, .lst ds) :: cs1)) Z
theorem small_es {n : Nat} (h : n ≤ 1000) : n ≤ sizeLine := Nat.le_trans h (by decide)
theorem d_tup {x1} (h : DA X W es w) (hn : es.length ≤ 1000 := by decide) : DE X W (.Tuple es x1 pos) (wTup w) :=
  PE.imp (pe_tup h) fun σ H Q h => by
    obtain ⟨F, cs, ρ, P, Z, s, re, hw, pe, px⟩ := h
    refine ⟨F, cs, ρ, _, Z, s, re, hw, fun H1 cs1 vs ds s1 r1 l1 h1 => ⟨by rw [r1.length, l1]; exact small_es hn, fun p hp => ?_⟩, px⟩
    obtain ⟨s2, e2⟩ := s1.new (o := .tup vs) hp
    exact pe _ cs1 _ _ (s2.from_ s1.gr) (.tup (SqT.of e2) (r1.mono s2.gr)) h1
theorem d_lst (h : DA X W es w) (hn : es.length ≤ 1000 := by decide) : DE X W (.List es pos) (wLst w) :=
  PE.imp (pe_lst h) fun σ H Q h => by
    obtain ⟨F, cs, ρ, P, Z, s, re, hw, pe, px⟩ := h
    refine ⟨F, cs, ρ, _, Z, s, re, hw, fun H1 cs1 vs ds s1 r1 l1 h1 => ⟨by rw [r1.length, l1]; exact small_es hn, fun p hp => ?_⟩, px⟩
    obtain ⟨s2, e2⟩ := s1.new (o := .lst vs) hp
    exact pe _ cs1 _ _ (s2.from_ s1.gr) (.lst (SqL.of e2) (r1.mono s2.gr)) h1
theorem d_lstM (h : DA X W es w) (hn : es.length ≤ 1000 := by decide) : DE X W (.List es pos) (wLstM w) :=
  PE.imp (pe_lst h) fun σ H Q h => by
    obtain ⟨F, cs, ρ, P, Z, s, re, hw, pe, px⟩ := h
    refine ⟨F, cs, ρ, _, Z, s, re, hw, fun H1 cs1 vs ds s1 r1 l1 h1 => ⟨by rw [r1.length, l1]; exact small_es hn, fun p hp => ?_⟩, px⟩
    have s2 := s1.newM (m := .lst ds) (o := .lst vs) hp r1
    exact pe _ _ _ _ (s2.from_ s1.gr) (.opq _) (h1 p (s1.notin hp).2)
abbrev DOn := List D → Cs → DP → Prop
def AdqN (K : PySem.W.Frag) (r : List V → Hp → VK → Prop) (o : DOn) : Prop := ∀ F cs H xs ds P Q, Sta K F (pur F cs H) cs H → RepL K (pur F cs H) xs ds → o ds cs P → PostE K F (pur F cs H) P Q → r xs H Q
def wCB (o : DOn) (w : WA) : WE := fun ρ cs P Z => w ρ cs (fun ds cs1 => o ds cs1 P) Z
theorem cb_ok {r : List V → Hp → VK → Prop} {o : DOn} {n : Nat} (adq : AdqN K r o) {Q : VK} : lE K W (wCB o w) σ H Q → tCB r (lA K W n w) σ H Q := by
  rintro ⟨F, cs, ρ, P, Z, s, re, hw, pe, px⟩
  exact ⟨F, cs, ρ, _, Z, s, re, hw, fun H1 cs1 vs ds s1 r1 l1 h1 => adq F cs1 H1 vs ds P Q s1.self r1 h1 (pe.le s1.gr), px⟩
variable {x : Str} {p : Pos} {id T : String} {r : List V → Hp → VK → Prop} {o : DOn}
theorem d_callB (hc : CallR X (.builtin id) r) (adq : AdqN X.K r o) (hg : Gl X x) (hm : X.mg x = none) (hv : bootBuiltins x = some (.builtin id)) (ha : DA X W (e :: es) w) (hn : x ≠ "__name__" := by decide) (hdb : (x == ("__debug__" : Str)) = false := by decide)
    (he : starEach (e :: es) X.env = (false, eval e X.env) :: starEach es X.env := by rfl) (hpl : (backTo pos (starEach es X.env)).any (·.1) = false := by rfl) : DE X W (.Call (.Name x p) (e :: es) [] pos) (wCB o w) :=
  PE.imp (pe_callB hc hg hm hv ha hn hdb he hpl) fun _ _ _ h => cb_ok adq h
theorem d_callTy (hc : CallR X (.type T) r) (adq : AdqN X.K r o) (hg : Gl X x) (hm : X.mg x = none) (hv : bootBuiltins x = some (.type T)) (ha : DA X W (e :: es) w) (hn : x ≠ "__name__" := by decide) (hdb : (x == ("__debug__" : Str)) = false := by decide)
    (he : starEach (e :: es) X.env = (false, eval e X.env) :: starEach es X.env := by rfl) (hpl : (backTo pos (starEach es X.env)).any (·.1) = false := by rfl) : DE X W (.Call (.Name x p) (e :: es) [] pos) (wCB o w) :=
  PE.imp (pe_callTy hc hg hm hv ha hn hdb he hpl) fun _ _ _ h => cb_ok adq h
def oAbs : DOn := fun ds cs P => match ds with
  | [.int i] => P (.int (if i < 0 then -i else i)) cs
  | _ => False
def oLen : DOn := fun ds cs P => match ds with
  | [.lst xs] => P (.int xs.length) cs
  | [.tup xs] => P (.int xs.length) cs
  | _ => False
def oList : DOn := fun ds cs P => match ds with
  | [.lst xs] => P (.lst xs) cs
  | [.tup xs] => P (.lst xs) cs
  | _ => False
theorem adq_abs : AdqN K (fun xs H Q => ∃ i, xs = [.int i] ∧ Q (.int (if i < 0 then -i else i)) H) oAbs := fun F cs H xs ds P Q s r ho pe => by
  unfold oAbs at ho
  split at ho
  · cases r with
    | cons h t => cases h; cases t; exact ⟨_, rfl, pe H cs _ _ s (.int _) ho⟩
  · exact ho.elim
theorem adq_len : AdqN K (fun xs H Q => ∃ p ys, xs = [.ref p] ∧ (SqL K H p ys ∨ SqT K H p ys) ∧ Q (.int ys.length) H) oLen := fun F cs H xs ds P Q s r ho pe => by
  unfold oLen at ho
  split at ho
  · cases r with
    | cons h t =>
      cases t
      cases h with
      | lst h r => exact ⟨_, _, rfl, .inl (ex_l pur_le h), by rw [r.length]; exact pe H cs _ _ s (.int _) ho⟩
  · cases r with
    | cons h t =>
      cases t
      cases h with
      | tup h r => exact ⟨_, _, rfl, .inr (ex_t pur_le h), by rw [r.length]; exact pe H cs _ _ s (.int _) ho⟩
  · exact ho.elim
theorem adq_list : AdqN K (fun xs H Q => ∃ p ys, xs = [.ref p] ∧ (SqL K H p ys ∨ SqT K H p ys) ∧ ∀ l, H l = none → Q (.ref l) (upd H l (.lst ys))) oList := fun F cs H xs ds P Q s r ho pe => by
  have fin : ∀ {ys : List V} {es : List D} {l : Addr}, RepL K (pur F cs H) ys es → H l = none → P (.lst es) cs → Q (.ref l) (upd H l (.lst ys)) := fun {ys es l} hr hl hp => by
    obtain ⟨s2, e2⟩ := s.new (o := .lst ys) hl
    exact pe _ cs _ _ s2 (.lst (SqL.of e2) (hr.mono s2.gr)) hp
  unfold oList at ho
  split at ho
  · cases r with
    | cons h t =>
      cases t
      cases h with
      | lst h r => exact ⟨_, _, rfl, .inl (ex_l pur_le h), fun l hl => fin r hl ho⟩
  · cases r with
    | cons h t =>
      cases t
      cases h with
      | tup h r => exact ⟨_, _, rfl, .inr (ex_t pur_le h), fun l hl => fin r hl ho⟩
  · exact ho.elim
abbrev WO := Env → Cs → (Option Int → Cs → Prop) → XZ → Prop
def lO (K : PySem.W.Frag) (W : WX) (w : WO) : TO := fun σ H Q => ∃ F cs ρ P Z, Sta K F (pur F cs H) cs H ∧ RepE K (pur F cs H) σ ρ ∧ w ρ cs P Z ∧ (∀ H' cs' b, Sta K F (pur F cs H) cs' H' → P b cs' → Q b H') ∧ PostX K F (pur F cs H) Z fun c d H' => W c d σ H'
abbrev DOp (X : Cx) (W : WX) (e : Option Expr) (w : WO) : Prop := PO X e (lO X.K W w)
theorem PO.imp {X : Cx} {e : Option Expr} {t t' : TO} (h : PO X e t) (i : ∀ σ H Q, t' σ H Q → t σ H Q) : PO X e t' := ⟨fun pins s σ H Q I q => h.run pins s σ H Q I (i σ H Q q)⟩
def wNoPart : WO := fun _ cs P _ => P none cs
def wPart (we : WE) : WO := fun ρ cs P Z => we ρ cs (fun x cs1 => match x with
  | .int i => P (some i) cs1
  | _ => False) Z
theorem do_none : DOp X W none wNoPart := PO.imp po_none fun σ H Q ⟨F, cs, ρ, P, Z, s, re, hw, pe, px⟩ => pe H cs none s hw
theorem do_some (h : DE X W e we) : DOp X W (some e) (wPart we) := PO.imp (po_some h) fun σ H Q h => by
  obtain ⟨F, cs, ρ, P, Z, s, re, hw, pe, px⟩ := h
  refine ⟨F, cs, ρ, _, Z, s, re, hw, fun H1 cs1 v d s1 r1 h1 => ?_, px⟩
  cases d <;> try exact h1.elim
  cases r1
  exact ⟨_, rfl, pe H1 cs1 _ s1 h1⟩
def cutD (xs : List D) (lo hi : Option Int) : List D := (xs.drop (HT.sIx xs.length 0 lo)).take (HT.sIx xs.length xs.length hi - HT.sIx xs.length 0 lo)
theorem RepL.cut {G : Hp} {vs : List V} {ds : List D} (r : RepL K G vs ds) (lo hi : Option Int) : RepL K G (cutV vs lo hi) (cutD ds lo hi) := by
  unfold cutV cutD
  rw [r.length]
  exact (r.drop _).take _
def oSlL : D → Option Int → Option Int → Cs → DP → Prop := fun x lo hi cs P => match x with
  | .lst xs => P (.lst (cutD xs lo hi)) cs
  | _ => False
def wSl (o : D → Option Int → Option Int → Cs → DP → Prop) (we : WE) (wl wh : WO) : WE := fun ρ cs P Z => we ρ cs (fun x cs1 => wl ρ cs1 (fun l cs2 => wh ρ cs2 (fun u cs3 => o x l u cs3 P) Z) Z) Z
def AdqS (K : PySem.W.Frag) (r : V → Option Int → Option Int → Hp → VK → Prop) (o : D → Option Int → Option Int → Cs → DP → Prop) : Prop := ∀ F cs H x dx lo hi P Q, Sta K F (pur F cs H) cs H → Rep K (pur F cs H) x dx → o dx lo hi cs P → PostE K F (pur F cs H) P Q → r x lo hi H Q
theorem d_slice {r : V → Option Int → Option Int → Hp → VK → Prop} {o : D → Option Int → Option Int → Cs → DP → Prop} {lo hi : Option Expr} {wl wh : WO} {p2 : Pos} (hr : SlR X r) (adq : AdqS X.K r o) (he : DE X W e we) (hl : DOp X W lo wl) (hu : DOp X W hi wh) :
    DE X W (.Subscript e (.Slice lo hi none p2) pos) (wSl o we wl wh) :=
  PE.imp (pe_slice hr he hl hu) fun σ H Q h => by
    obtain ⟨F, cs, ρ, P, Z, s, re, hw, pe, px⟩ := h
    refine ⟨F, cs, ρ, _, Z, s, re, hw, fun H1 cs1 v d s1 r1 h1 => ?_, px⟩
    refine ⟨F, cs1, ρ, _, Z, s1.self, re.mono s1.gr, h1, fun H2 cs2 l s2 h2 => ?_, px.le s1.gr⟩
    refine ⟨F, cs2, ρ, _, Z, s2.self, re.mono (s1.gr.trans s2.gr), h2, fun H3 cs3 u s3 h3 => ?_, px.le (s1.gr.trans s2.gr)⟩
    exact adq F cs3 H3 v d l u P Q s3.self (r1.mono (s2.gr.trans s3.gr)) h3 (pe.le ((s1.gr.trans s2.gr).trans s3.gr))
theorem adq_slL : AdqS K (rSlL K) oSlL := fun F cs H x dx lo hi P Q s rx ho pe => by
  unfold oSlL at ho
  split at ho
  · cases rx with
    | lst h r =>
      refine ⟨_, _, rfl, ex_l pur_le h, fun p hp => ?_⟩
      obtain ⟨s2, e2⟩ := s.new (o := .lst (cutV _ lo hi)) hp
      exact pe _ cs _ _ s2 (.lst (SqL.of e2) ((r.cut lo hi).mono s2.gr)) ho
  · exact ho.elim
end
end DL
namespace DL
open PySem L2
section
variable {X : Cx} {W : WX} {K : PySem.W.Frag} {σ : St} {H : Hp} {e c : Expr} {we : WE} {wt : WT} {pos : Pos} {st : Stmt} {rest A B : List Stmt} {u v : WS}
def sNext : WS := fun f ρ cs => f.nx ρ cs
def sSeq (u v : WS) : WS := fun f ρ cs => u { f with nx := fun ρ' cs' => v f ρ' cs' } ρ cs
theorem dss_nil : DSs X W [] sNext := PSs.imp pss_nil fun E σ H ⟨F, cs, ρ, f, s, re, hw, pe⟩ => pe.nx H cs σ ρ s re hw
theorem dss_cons (h1 : DS X W st u) (h2 : DSs X W rest v) : DSs X W (st :: rest) (sSeq u v) := PSs.imp (pss_cons h1 h2) fun E σ H h => by
  obtain ⟨F, cs, ρ, f, s, re, hw, pe⟩ := h
  exact ⟨F, cs, ρ, _, s, re, hw, ⟨fun H1 cs1 σ1 ρ1 s1 re1 h1 => ⟨F, cs1, ρ1, f, s1.self, re1, h1, pe.le s1.gr⟩, pe.bk, pe.ct, pe.rt, pe.ex⟩⟩
theorem dss_one (h1 : DS X W st u) : DSs X W [st] u := PSs.imp (pss_one h1) fun E σ H h => h
def sBreak : WS := fun f ρ cs => f.bk ρ cs
def sCont : WS := fun f ρ cs => f.ct ρ cs
theorem PostS.px {F G : Hp} {f : Fin} {E : Ends} {ρ : Env} (pe : PostS K F G W f E) (re : RepE K G σ ρ) : PostX K F G (fun x cs => f.ex x ρ cs) fun c d H' => W c d σ H' :=
  fun H' cs' x d s r h => pe.ex H' cs' σ ρ x d s (re.mono s.gr) r h
def sDrop (we : WE) : WS := fun f ρ cs => we ρ cs (fun _ cs1 => f.nx ρ cs1) (fun x cs1 => f.ex x ρ cs1)
theorem ds_expr (he : DE X W e we) (hs : swapsWith e none pos.line X.env = pure false := by rfl) : DS X W (.Expr e pos) (sDrop we) := PS.imp (ps_expr he hs) fun E σ H h => by
  obtain ⟨F, cs, ρ, f, s, re, hw, pe⟩ := h
  exact ⟨F, cs, ρ, _, _, s, re, hw, fun H1 cs1 v d s1 r1 h1 => pe.nx H1 cs1 σ ρ s1 (re.mono s1.gr) h1, pe.px re⟩
def sRet (we : WE) : WS := fun f ρ cs => we ρ cs f.rt (fun x cs1 => f.ex x ρ cs1)
theorem ds_ret (he : DE X W e we) : DS X W (.Return (some e) pos) (sRet we) := PS.imp (ps_ret he) fun E σ H h => by
  obtain ⟨F, cs, ρ, f, s, re, hw, pe⟩ := h
  exact ⟨F, cs, ρ, _, _, s, re, hw, fun H1 cs1 v d s1 r1 h1 => pe.rt H1 cs1 v d s1 r1 h1, pe.px re⟩
def sRetN : WS := fun f _ cs => f.rt .non cs
def sIf (wt : WT) (u v : WS) : WS := fun f ρ cs => wt ρ cs (fun k cs1 => (k = true → u f ρ cs1) ∧ (k = false → v f ρ cs1)) (fun x cs1 => f.ex x ρ cs1)
theorem ds_if (hc : DT X W c wt) (ha : DSs X W A u) (hb : DSs X W B v) : DS X W (.If c A B pos) (sIf wt u v) := PS.imp (ps_if hc ha hb) fun E σ H h => by
  obtain ⟨F, cs, ρ, f, s, re, hw, pe⟩ := h
  refine ⟨F, cs, ρ, _, _, s, re, hw, fun H1 cs1 k s1 h1 => ?_, pe.px re⟩
  cases k with
  | true => exact iteT ⟨F, cs1, ρ, f, s1.self, re.mono s1.gr, h1.1 rfl, pe.le s1.gr⟩
  | false => exact iteF ⟨F, cs1, ρ, f, s1.self, re.mono s1.gr, h1.2 rfl, pe.le s1.gr⟩
def sNever : WS := fun _ _ _ => False
theorem dss_never {sts : List Stmt} : DSs X W sts sNever := PSs.imp pss_never fun E σ H ⟨F, cs, ρ, f, s, re, hw, pe⟩ => hw
abbrev WG := D → Env → (Env → Prop) → Prop
abbrev WGs := List D → Env → (Env → Prop) → Prop
def lG (K : PySem.W.Frag) (g : WG) : TG := fun v σ H Q => ∃ F cs ρ d k, Sta K F (pur F cs H) cs H ∧ RepE K (pur F cs H) σ ρ ∧ Rep K (pur F cs H) v d ∧ g d ρ k ∧ ∀ σ' ρ' H', Sta K F (pur F cs H) cs H' → RepE K (pur F cs H') σ' ρ' → k ρ' → Q σ' H'
def lGs (K : PySem.W.Frag) (g : WGs) : TGs := fun v σ H Q => ∃ F cs ρ d k, Sta K F (pur F cs H) cs H ∧ RepE K (pur F cs H) σ ρ ∧ RepL K (pur F cs H) v d ∧ g d ρ k ∧ ∀ σ' ρ' H', Sta K F (pur F cs H) cs H' → RepE K (pur F cs H') σ' ρ' → k ρ' → Q σ' H'
abbrev DG (X : Cx) (tg : Expr) (g : WG) : Prop := PG X tg (lG X.K g)
abbrev DGs (X : Cx) (tg : List Expr) (g : WGs) : Prop := PGs X tg (lGs X.K g)
theorem PG.imp {X : Cx} {e : Expr} {t t' : TG} (h : PG X e t) (i : ∀ v σ H Q, t' v σ H Q → t v σ H Q) : PG X e t' := ⟨fun pins s σ H v u Q I r q => h.run pins s σ H v u Q I r (i v σ H Q q)⟩
theorem PGs.imp {X : Cx} {e : List Expr} {t t' : TGs} (h : PGs X e t) (i : ∀ v σ H Q, t' v σ H Q → t v σ H Q) : PGs X e t' := ⟨fun pins s σ H v u Q I r q => h.run pins s σ H v u Q I r (i v σ H Q q)⟩
def gN (i : Nat) : WG := fun d ρ k => k (ρ.set i (some d))
theorem dg_name {i : Nat} {x : Str} (hN : X.N.Nodup) (hi : X.N[i]? = some x) (hx : Loc X.env.scope x) (hf : X.fn x = true ∨ X.env.scope.names.lookup x = some .local := by first | exact .inl rfl | exact .inr rfl | assumption) : DG X (.Name x pos) (gN i) :=
  PG.imp (pg_name hN hi hx hf) fun v σ H Q ⟨F, cs, ρ, d, k, s, re, r, hw, q⟩ => q _ _ H s (re.set r i) hw
def gNl : WGs := fun ds ρ k => match ds with
  | [] => k ρ
  | _ => False
def gCn (g : WG) (gs : WGs) : WGs := fun ds ρ k => match ds with
  | d :: r => g d ρ fun ρ' => gs r ρ' k
  | [] => False
theorem dgs_nil : DGs X [] gNl := PGs.imp pgs_nil fun v σ H Q h => by
  obtain ⟨F, cs, ρ, d, k, s, re, r, hw, q⟩ := h
  cases r with
  | nil => exact ⟨rfl, q σ ρ H s re hw⟩
  | cons _ _ => exact hw.elim
theorem dgs_cons {es : List Expr} {g : WG} {gs : WGs} (h1 : DG X e g) (h2 : DGs X es gs) (hs : (assignEach (e :: es) X.env).map (·.2) = assign e X.env :: (assignEach es X.env).map (·.2) := by rfl) : DGs X (e :: es) (gCn g gs) := PGs.imp (pgs_cons h1 h2 hs) fun v σ H Q h => by
  obtain ⟨F, cs, ρ, d, k, s, re, r, hw, q⟩ := h
  cases r with
  | nil => exact hw.elim
  | cons r1 r2 => exact ⟨_, _, rfl, F, cs, ρ, _, _, s, re, r1, hw, fun σ1 ρ1 H1 s1 re1 h1 => ⟨F, cs, ρ1, _, k, s1.self, re1, r2.mono s1.gr, h1, fun σ2 ρ2 H2 s2 re2 h2 => q σ2 ρ2 H2 (s2.from_ s1.gr) re2 h2⟩⟩
/-- (a, b, ..) = a tuple of that length -/
def gT (n : Nat) (gs : WGs) : WG := fun d ρ k => match d with
  | .tup ds => ds.length = n ∧ gs ds ρ k
  | _ => False
theorem dg_tup {es : List Expr} {kk : Nat} {gs : WGs} {n : Nat} (hc : X.calm = true) (h : DGs X es gs) (hn : (assignEach es X.env).length = n := by rfl) (hst : (assignEach es X.env).findIdx? (·.1) = none := by rfl) : DG X (.Tuple es kk pos) (gT n gs) :=
  PG.imp (pg_tup hc h hn hst) fun v σ H Q hq => by
    obtain ⟨F, cs, ρ, d, k, s, re, r, hw, q⟩ := hq
    cases d <;> try exact hw.elim
    cases r with
    | tup h r => exact ⟨_, _, rfl, ex_t pur_le h, by rw [r.length]; exact hw.1, F, cs, ρ, _, k, s, re, r, hw.2, q⟩
def sAsg (we : WE) (g : WG) : WS := fun f ρ cs => we ρ cs (fun d cs1 => g d ρ fun ρ' => f.nx ρ' cs1) (fun x cs1 => f.ex x ρ cs1)
theorem asg_ok {g : WG} {E : Ends} : lS K W (sAsg we g) E σ H → tAsg (lE K W we) (lG K g) E σ H := by
  rintro ⟨F, cs, ρ, f, s, re, hw, pe⟩
  exact ⟨F, cs, ρ, _, _, s, re, hw, fun H1 cs1 v d s1 r1 h1 => ⟨F, cs1, ρ, d, _, s1.self, re.mono s1.gr, r1, h1, fun σ2 ρ2 H2 s2 re2 h2 => pe.nx H2 cs1 σ2 ρ2 (s2.from_ s1.gr) re2 h2⟩, pe.px re⟩
theorem asgN_ok {i : Nat} {E : Ends} : lS K W (sAsg we (gN i)) E σ H → tAsg (lE K W we) (gName i) E σ H := by
  rintro ⟨F, cs, ρ, f, s, re, hw, pe⟩
  exact ⟨F, cs, ρ, _, _, s, re, hw, fun H1 cs1 v d s1 r1 h1 => pe.nx H1 cs1 _ _ s1 ((re.mono s1.gr).set r1 i) h1, pe.px re⟩
theorem ds_set {i : Nat} {x : Str} {pos' : Pos} (hN : X.N.Nodup) (hi : X.N[i]? = some x) (hx : Loc X.env.scope x) (he : DE X W e we) (hs : swapsWith e (some (.Name x pos')) pos.line X.env = pure false := by rfl)
    (hf : X.fn x = true ∨ X.env.scope.names.lookup x = some .local := by first | exact .inl rfl | exact .inr rfl | assumption) : DS X W (.Assign [.Name x pos'] e pos) (sAsg we (gN i)) :=
  PS.imp (ps_set (i := i) hN hi hx he hs hf) fun _ _ _ h => asgN_ok h
theorem ds_asg {tg : Expr} {g : WG} (he : DE X W e we) (hg : DG X tg g) (hs : swapsWithSole [tg] e pos.line X.env = pure false := by rfl) (hw : swappedStores [tg] e X.env = pure none := by rfl)
    (h1 : (assignEach [tg] X.env).map (·.2) = [assign tg X.env] := by rfl) : DS X W (.Assign [tg] e pos) (sAsg we g) := PS.imp (ps_asg he hg hs hw h1) fun _ _ _ h => asg_ok h
def sPar (i j : Nat) (w : WA) : WS := fun f ρ cs => w ρ cs (fun ds cs1 => match ds with
  | [x, y] => f.nx ((ρ.set i (some x)).set j (some y)) cs1
  | _ => False) (fun x cs1 => f.ex x ρ cs1)
theorem par_inv {ds : List D} {g : D → D → Prop} (h : (match ds with | [x, y] => g x y | _ => False)) : ∃ x y, ds = [x, y] ∧ g x y := by
  match ds, h with
  | [x, y], h => exact ⟨x, y, rfl, h⟩
theorem ds_par {i j : Nat} {x y : Str} {a b : Expr} {w : WA} {px py pt : Pos} {kt k2 pt2} (hc : X.calm = true) (hN : X.N.Nodup) (hi : X.N[i]? = some x) (hj : X.N[j]? = some y) (hij : i ≠ j)
    (hx : X.env.scope.names.lookup x = some .local) (hy : X.env.scope.names.lookup y = some .local) (ha : DA X W [a, b] w)
    (hw : swappedStores [.Tuple [.Name x px, .Name y py] kt pt] (.Tuple [a, b] k2 pt2) X.env = pure (some [x, y]) := by rfl)
    (hs : swapsWithSole [.Tuple [.Name x px, .Name y py] kt pt] (.Tuple [a, b] k2 pt2) pos.line X.env = pure false := by rfl) :
    DS X W (.Assign [.Tuple [.Name x px, .Name y py] kt pt] (.Tuple [a, b] k2 pt2) pos) (sPar i j w) := PS.imp (ps_par hc hN hi hj hij hx hy ha hw hs) fun E σ H h => by
  obtain ⟨F, cs, ρ, f, s, re, hw, pe⟩ := h
  refine ⟨F, cs, ρ, _, _, s, re, hw, fun H1 cs1 vs ds s1 r1 l1 h1 => ?_, pe.px re⟩
  obtain ⟨dx, dy, rfl, h⟩ := par_inv h1
  cases r1 with
  | cons r1 r2 =>
    cases r2 with
    | cons r2 r3 =>
      cases r3
      exact ⟨_, _, rfl, pe.nx H1 cs1 _ _ s1 (((re.mono s1.gr).set r1 i).set r2 j) h⟩
/-- name op= e of ints -/
def sAug (i : Nat) (o : DO2) (we : WE) : WS := fun f ρ cs => match ρ[i]? with
  | some (some x) => we ρ cs (fun y cs1 => o x y cs1 fun z cs2 => f.nx (ρ.set i (some z)) cs2) (fun x cs1 => f.ex x ρ cs1)
  | _ => False
/-- I: by a number that falls -/
def sWhile (wt : WT) (wb : WS) : WS := fun f ρ cs => ∃ I : Nat → Env → Cs → Prop, (∃ m, I m ρ cs) ∧ ∀ m ρ cs, I m ρ cs →
  wt ρ cs (fun k cs1 => (k = true → wb { f with nx := fun ρ' cs' => ∃ m', m' < m ∧ I m' ρ' cs', ct := fun ρ' cs' => ∃ m', m' < m ∧ I m' ρ' cs', bk := f.nx } ρ cs1) ∧ (k = false → f.nx ρ cs1)) (fun x cs1 => f.ex x ρ cs1)
theorem ds_while {body : List Stmt} {wb : WS} (hp : PassesOwn (model X.prog X.w) X.A X.env X.xe) (hc : DT X W c wt) (hb : DSs X W body wb) : DS X W (.While c body [] pos) (sWhile wt wb) := PS.imp (ps_while hp hc hb) fun E σ H h => by
  obtain ⟨F, cs, ρ, f, s, re, ⟨I, ⟨m0, i0⟩, turn⟩, pe⟩ := h
  refine ⟨fun m σ' H' => ∃ cs' ρ', Sta X.K F (pur F cs H) cs' H' ∧ RepE X.K (pur F cs' H') σ' ρ' ∧ I m ρ' cs', ⟨m0, cs, ρ, s, re, i0⟩, fun m σ1 H1 ⟨cs1, ρ1, s1, re1, i1⟩ => ?_⟩
  refine ⟨F, cs1, ρ1, _, _, s1.self, re1, turn m ρ1 cs1 i1, fun H2 cs2 k s2 h2 => ?_, (pe.le s1.gr).px re1⟩
  cases k with
  | true =>
    refine iteT ⟨fun σ' H' => ∃ m', m' < m ∧ ∃ cs' ρ', Sta X.K F (pur F cs H) cs' H' ∧ RepE X.K (pur F cs' H') σ' ρ' ∧ I m' ρ' cs', fun σ' H' ⟨m', hm, z⟩ => ⟨m', hm, z⟩, ?_⟩
    have pe2 := pe.le (s1.gr.trans s2.gr)
    exact ⟨F, cs2, ρ1, _, s2.self, re1.mono s2.gr, h2.1 rfl, ⟨fun H3 cs3 σ3 ρ3 s3 re3 ⟨m', hm, z⟩ => ⟨m', hm, cs3, ρ3, s3.from_ (s1.gr.trans s2.gr), re3, z⟩, fun H3 cs3 σ3 ρ3 s3 re3 z => pe2.nx H3 cs3 σ3 ρ3 s3 re3 z,
      fun H3 cs3 σ3 ρ3 s3 re3 ⟨m', hm, z⟩ => ⟨m', hm, cs3, ρ3, s3.from_ (s1.gr.trans s2.gr), re3, z⟩, pe2.rt, pe2.ex⟩⟩
  | false => exact iteF (pe.nx H2 cs2 σ1 ρ1 (s2.from_ s1.gr) (re1.mono s2.gr) (h2.2 rfl))
/-- J yields xs as long as the data stand -/
structure YI (K : PySem.W.Frag) (J : It) (G : Hp) (xs : List D) : Prop where
  go : ∀ i d, xs[i]? = some d → ∀ F cs H, Sta K F G cs H → J.go i H
  yld : ∀ i d, xs[i]? = some d → ∀ F cs H x H', Sta K F G cs H → J.yld i H x H' → Sta K F (pur F cs H) cs H' ∧ Rep K (pur F cs H') x d
  stop : ∀ F cs H, Sta K F G cs H → J.stop xs.length H
abbrev WI := Env → Cs → (List D → Cs → Prop) → XZ → Prop
def lI (K : PySem.W.Frag) (W : WX) (w : WI) : TI := fun σ H R => ∃ F cs ρ P Z, Sta K F (pur F cs H) cs H ∧ RepE K (pur F cs H) σ ρ ∧ w ρ cs P Z ∧ (∀ H' cs' J xs, Sta K F (pur F cs H) cs' H' → YI K J (pur F cs' H') xs → P xs cs' → R J H') ∧ PostX K F (pur F cs H) Z fun c d H' => W c d σ H'
abbrev DI (X : Cx) (W : WX) (tg it : Expr) (w : WI) : Prop := PI X tg it (lI X.K W w)
theorem PI.imp {X : Cx} {tg e : Expr} {t t' : TI} (h : PI X tg e t) (i : ∀ σ H Q, t' σ H Q → t σ H Q) : PI X tg e t' := ⟨fun pins s σ H Q I q => h.run pins s σ H Q I (i σ H Q q)⟩
def loopW (g : WG) (wb : WS) (f : Fin) : List D → Env → Cs → Prop
  | [], ρ, cs => f.nx ρ cs
  | d :: r, ρ, cs => g d ρ fun ρ1 => wb { f with nx := fun ρ' cs' => loopW g wb f r ρ' cs', ct := fun ρ' cs' => loopW g wb f r ρ' cs', bk := f.nx } ρ1 cs
def sFor (wi : WI) (g : WG) (wb : WS) : WS := fun f ρ cs => wi ρ cs (fun xs cs1 => loopW g wb f xs ρ cs1) (fun x cs1 => f.ex x ρ cs1)
theorem drop_cons {α : Type} {xs : List α} {i : Nat} {d : α} {r : List α} (h : xs.drop i = d :: r) : xs[i]? = some d ∧ xs.drop (i + 1) = r := by
  refine ⟨?_, ?_⟩
  · have e : (xs.drop i)[0]? = some d := by rw [h] <;> rfl
    rw [List.getElem?_drop] at e
    simpa using e
  · have e : (xs.drop i).drop 1 = r := by rw [h] <;> rfl
    rw [List.drop_drop] at e
    exact e
theorem ds_for {tg iter : Expr} {body : List Stmt} {wi : WI} {g : WG} {wb : WS} (hp : PassesOwn (model X.prog X.w) X.A X.env X.xe) (hc : X.calm = true) (hi : DI X W tg iter wi) (hg : DG X tg g) (hb : DSs X W body wb)
    (hs : ∀ x, foldedSetIterable iter X.env x = pure x := by intro _; rfl) : DS X W (.For tg iter body [] pos) (sFor wi g wb) := PS.imp (ps_for hp hc hi hg hb hs) fun E σ H h => by
  obtain ⟨F, cs, ρ, f, s, re, hw, pe⟩ := h
  refine ⟨F, cs, ρ, _, _, s, re, hw, fun H1 cs1 J xs s1 yi h1 => ?_, pe.px re⟩
  refine ⟨fun i m σ' H' => i ≤ xs.length ∧ m = xs.length - i ∧ ∃ cs' ρ', Sta X.K F (pur F cs1 H1) cs' H' ∧ RepE X.K (pur F cs' H') σ' ρ' ∧ loopW g wb f (xs.drop i) ρ' cs', ⟨xs.length, Nat.zero_le _, rfl, cs1, ρ, s1.self, re.mono s1.gr, h1⟩, ?_⟩
  rintro i m σ2 H2 ⟨hi, rfl, cs2, ρ2, s2, re2, h2⟩
  cases e : xs.drop i with
  | nil =>
    have hl : xs.length ≤ i := by
      have z := congrArg List.length e
      rw [List.length_drop] at z
      have z' : xs.length - i = 0 := z
      omega
    have hie : i = xs.length := by omega
    rw [e] at h2
    refine .inl ⟨?_, pe.nx H2 cs2 σ2 ρ2 (s2.from_ s1.gr) re2 h2⟩
    rw [hie]
    exact yi.stop F cs2 H2 s2
  | cons d r =>
    obtain ⟨e1, e2⟩ := drop_cons e
    have hlt : i < xs.length := (List.getElem?_eq_some_iff.mp e1).1
    rw [e] at h2
    refine .inr ⟨yi.go i d e1 F cs2 H2 s2, fun σ' H' => ∃ cs' ρ', Sta X.K F (pur F cs1 H1) cs' H' ∧ RepE X.K (pur F cs' H') σ' ρ' ∧ loopW g wb f r ρ' cs', ?_, ?_⟩
    · rintro σ' H' ⟨cs', ρ', s', re', h'⟩
      exact ⟨xs.length - (i + 1), by omega, by omega, rfl, cs', ρ', s', re', by rw [e2]; exact h'⟩
    · intro x H3 hy
      obtain ⟨s3, r3⟩ := yi.yld i d e1 F cs2 H2 x H3 s2 hy
      have g3 := s2.gr.trans s3.gr
      have pe3 := pe.le (s1.gr.trans g3)
      refine ⟨F, cs2, ρ2, d, _, s3.self, re2.mono s3.gr, r3, h2, fun σ4 ρ4 H4 s4 re4 h4 => ?_⟩
      have g4 := g3.trans s4.gr
      have pe4 := pe.le (s1.gr.trans g4)
      exact ⟨F, cs2, ρ4, _, s4.self, re4, h4, ⟨fun H5 cs5 σ5 ρ5 s5 re5 h5 => ⟨cs5, ρ5, s5.from_ g4, re5, h5⟩, fun H5 cs5 σ5 ρ5 s5 re5 h5 => pe4.nx H5 cs5 σ5 ρ5 s5 re5 h5,
        fun H5 cs5 σ5 ρ5 s5 re5 h5 => ⟨cs5, ρ5, s5.from_ g4, re5, h5⟩, pe4.rt, pe4.ex⟩⟩
def iSeq (we : WE) : WI := fun ρ cs P Z => we ρ cs (fun d cs1 => match d with
  | .lst xs => P xs cs1
  | _ => False) Z
def iTupD (we : WE) : WI := fun ρ cs P Z => we ρ cs (fun d cs1 => match d with
  | .tup xs => P xs cs1
  | _ => False) Z
theorem yi_list {G : Hp} {a : Addr} {xs : List V} {ds : List D} (h : SqL K G a xs) (r : RepL K G xs ds) : YI K (Itl K a) G ds where
  go := fun i d e F cs H s => by
    obtain ⟨v, e1, _⟩ := r.get e
    exact ⟨xs, v, ex_l (s.gr.trans pur_le) h, e1⟩
  yld := fun i d e F cs H x H' s hy => by
    obtain ⟨e1, e2⟩ := hy
    obtain ⟨v, e3, rv⟩ := r.get e
    have e4 := e2 xs (ex_l (s.gr.trans pur_le) h)
    rw [e3] at e4
    cases e4
    subst e1
    exact ⟨s.self, rv.mono s.gr⟩
  stop := fun F cs H s => ⟨xs, ex_l (s.gr.trans pur_le) h, by rw [r.length]; exact Nat.le_refl _⟩
theorem yi_tup {G : Hp} {a : Addr} {xs : List V} {ds : List D} (h : SqT K G a xs) (r : RepL K G xs ds) : YI K (Itt K a) G ds where
  go := fun i d e F cs H s => by
    obtain ⟨v, e1, _⟩ := r.get e
    exact ⟨xs, v, ex_t (s.gr.trans pur_le) h, e1⟩
  yld := fun i d e F cs H x H' s hy => by
    obtain ⟨e1, e2⟩ := hy
    obtain ⟨v, e3, rv⟩ := r.get e
    have e4 := e2 xs (ex_t (s.gr.trans pur_le) h)
    rw [e3] at e4
    cases e4
    subst e1
    exact ⟨s.self, rv.mono s.gr⟩
  stop := fun F cs H s => ⟨xs, ex_t (s.gr.trans pur_le) h, by rw [r.length]; exact Nat.le_refl _⟩
theorem di_list {tg : Expr} (h : DE X W e we) : DI X W tg e (iSeq we) := PI.imp (pi_list h) fun σ H R hq => by
  obtain ⟨F, cs, ρ, P, Z, s, re, hw, pe, px⟩ := hq
  refine ⟨F, cs, ρ, _, Z, s, re, hw, fun H1 cs1 v d s1 r1 h1 => ?_, px⟩
  cases d <;> try exact h1.elim
  cases r1 with
  | lst h r => exact ⟨_, rfl, ⟨_, ex_l pur_le h⟩, pe H1 cs1 _ _ s1 (yi_list h r) h1⟩
theorem di_tup {tg : Expr} (h : DE X W e we) : DI X W tg e (iTupD we) := PI.imp (pi_tup h) fun σ H R hq => by
  obtain ⟨F, cs, ρ, P, Z, s, re, hw, pe, px⟩ := hq
  refine ⟨F, cs, ρ, _, Z, s, re, hw, fun H1 cs1 v d s1 r1 h1 => ?_, px⟩
  cases d <;> try exact h1.elim
  cases r1 with
  | tup h r => exact ⟨_, rfl, ⟨_, ex_t pur_le h⟩, pe H1 cs1 _ _ s1 (yi_tup h r) h1⟩
def rngD (lo : Int) (n : Nat) : List D := (List.range n).map fun (i : Nat) => D.int (lo + (i : Int))
theorem yi_range (G : Hp) (lo : Int) (n : Nat) : YI K (Itr lo n) G (rngD lo n) where
  go := fun i d e F cs H s => by
    have z := (List.getElem?_eq_some_iff.mp e).1
    have z2 : i < n := by simpa [rngD] using z
    exact z2
  yld := fun i d e F cs H x H' s hy => by
    obtain ⟨e1, e2⟩ := hy
    subst e1 e2
    obtain ⟨hi, e3⟩ := List.getElem?_eq_some_iff.mp e
    simp [rngD] at e3
    rw [← e3]
    exact ⟨s.self, .int _⟩
  stop := fun F cs H s => by
    have z : n ≤ (rngD lo n).length := by simp [rngD]
    exact z
def iRg1 (w : WA) : WI := fun ρ cs P Z => w ρ cs (fun ds cs1 => match ds with
  | [.int j] => (-(2 ^ 62) ≤ j ∧ j < 2 ^ 62) ∧ P (rngD 0 j.toNat) cs1
  | _ => False) Z
def iRg2 (w : WA) : WI := fun ρ cs P Z => w ρ cs (fun ds cs1 => match ds with
  | [.int i, .int j] => (-(2 ^ 62) ≤ i ∧ i < 2 ^ 62 ∧ -(2 ^ 62) ≤ j ∧ j < 2 ^ 62) ∧ P (rngD i (j - i).toNat) cs1
  | _ => False) Z
theorem int1_inv {ds : List D} {g : Int → Prop} (h : (match ds with | [D.int j] => g j | _ => False)) : ∃ j, ds = [.int j] ∧ g j := by
  match ds, h with
  | [D.int j], h => exact ⟨j, rfl, h⟩
theorem int2_inv {ds : List D} {g : Int → Int → Prop} (h : (match ds with | [D.int i, D.int j] => g i j | _ => False)) : ∃ i j, ds = [.int i, .int j] ∧ g i j := by
  match ds, h with
  | [D.int i, D.int j], h => exact ⟨i, j, rfl, h⟩
theorem di_range1 {tg a : Expr} {w : WA} {p : Pos} (hg : Gl X "range") (hm : X.mg "range" = none) (ha : DA X W [a] w) (hs : starEach [a] X.env = [(false, eval a X.env)] := by rfl) : DI X W tg (.Call (.Name "range" p) [a] [] pos) (iRg1 w) :=
  PI.imp (pi_range1 hg hm ha hs) fun σ H R hq => by
    obtain ⟨F, cs, ρ, P, Z, s, re, hw, pe, px⟩ := hq
    refine ⟨F, cs, ρ, _, Z, s, re, hw, fun H1 cs1 vs ds s1 r1 l1 h1 => ?_, px⟩
    obtain ⟨j, rfl, ⟨h2, h3⟩, h⟩ := int1_inv h1
    cases r1 with
    | cons r1 r2 => cases r1; cases r2; exact ⟨j, rfl, h2, h3, pe H1 cs1 _ _ s1 (yi_range _ 0 _) h⟩
theorem di_range2 {tg a b : Expr} {w : WA} {p : Pos} (hg : Gl X "range") (hm : X.mg "range" = none) (ha : DA X W [a, b] w) (hs : starEach [a, b] X.env = [(false, eval a X.env), (false, eval b X.env)] := by rfl) (hs2 : starEach [b] X.env = [(false, eval b X.env)] := by rfl) :
    DI X W tg (.Call (.Name "range" p) [a, b] [] pos) (iRg2 w) := PI.imp (pi_range2 hg hm ha hs hs2) fun σ H R hq => by
    obtain ⟨F, cs, ρ, P, Z, s, re, hw, pe, px⟩ := hq
    refine ⟨F, cs, ρ, _, Z, s, re, hw, fun H1 cs1 vs ds s1 r1 l1 h1 => ?_, px⟩
    obtain ⟨i, j, rfl, h2, h⟩ := int2_inv h1
    cases r1 with
    | cons r1 r2 =>
      cases r2 with
      | cons r2 r3 => cases r1; cases r2; cases r3; exact ⟨i, j, rfl, h2, pe H1 cs1 _ _ s1 (yi_range _ i _) h⟩
end
end DL
namespace DL
open PySem PySem.Spec PyProof.Rows L2
abbrev DSp := List D → Cs → DP → XZ → Prop
def spL (K : PySem.W.Frag) (n : Nat) (sp : DSp) : Sp := fun vs H Q E => ∃ F cs ds P Z, Sta K F (pur F cs H) cs H ∧ RepL K (pur F cs H) vs ds ∧ ds.length = n ∧ sp ds cs P Z ∧ PostE K F (pur F cs H) P Q ∧ PostX K F (pur F cs H) Z E
theorem spL_len {K : PySem.W.Frag} {n : Nat} {sp : DSp} : ∀ vs H Q E, spL K n sp vs H Q E → vs.length = n := fun vs H Q E ⟨F, cs, ds, P, Z, s, r, l, _⟩ => r.length.trans l
section
variable {X : Cx} {W : WX} {K : PySem.W.Frag} {σ : L2.St} {H : Hp} {CX : CXT} {k n : Nat} {f : Addr} {fd : FuncData} {ps : List Str} {sp : DSp} {x : Str} {p pos : Pos} {e : Expr} {es : List Expr} {w : WA} {dvs : List V} {dds : List D} {ds : List Value}
def wCall (sp : DSp) (dds : List D) (w : WA) : WE := fun ρ cs P Z => w ρ cs (fun ds cs1 => sp (ds ++ dds) cs1 P Z) Z
theorem RepL.const {dvs : List V} {dds : List D} (h : ∀ G, RepL K G dvs dds) {G : Hp} {vs : List V} {ds : List D} (r : RepL K G vs ds) : RepL K G (vs ++ dvs) (ds ++ dds) := r.append (h G)
theorem call_ok {m : Nat} (hd : ∀ G, RepL K G dvs dds) (hn : m + dds.length = n) {Q : VK} : lE K W (wCall sp dds w) σ H Q → tCallSD (spL K n sp) dvs (L2.WE W) (lA K W m w) σ H Q := by
  rintro ⟨F, cs, ρ, P, Z, s, re, hw, pe, px⟩
  refine ⟨F, cs, ρ, _, Z, s, re, hw, fun H1 cs1 vs ds s1 r1 l1 h1 => ?_, px⟩
  exact ⟨F, cs1, _, P, Z, s1.self, RepL.const hd r1, by rw [List.length_append, l1]; exact hn, h1, pe.le s1.gr, px.le s1.gr⟩
/-- f(e, ..), the defaults dds behind -/
theorem d_call (F : FnOk X.prog X.w X.K X.mg X.base (L2.CX X.prog X.w) k f fd ps (spL X.K n sp)) (hr : Room k X.A) (hg : Gl X x) (hm : X.mg x = some (.ref f)) (hk : PySem.W.keepIn X.K (.ref f) = true) (hb : Binds X.K fd ps ds) (hd : Vals dvs ds) (hdd : ∀ G, RepL X.K G dvs dds) (tk : Takes X W)
    (ha : DA X W (e :: es) w) (hn : (e :: es).length + dds.length = n := by rfl) (hdb : (x == ("__debug__" : Str)) = false := by decide) (he : starEach (e :: es) X.env = (false, eval e X.env) :: starEach es X.env := by rfl) (hpl : (backTo pos (starEach es X.env)).any (·.1) = false := by rfl) :
    DE X W (.Call (.Name x p) (e :: es) [] pos) (wCall sp dds w) :=
  PE.imp (pe_callSD (E := L2.WE W) F hr hg hm hk hb hd (fun σ => passAt tk σ) ha hdb he hpl) fun _ _ _ h => call_ok hdd hn h
theorem d_callN (F : FnOk X.prog X.w X.K X.mg X.base (L2.CX X.prog X.w) k f fd ps (spL X.K n sp)) (hr : Room k X.A) (hg : Gl X x) (hm : X.mg x = some (.ref f)) (hk : PySem.W.keepIn X.K (.ref f) = true) (hb : Binds X.K fd ps []) (tk : Takes X W)
    (ha : DA X W (e :: es) w) (hn : (e :: es).length = n := by rfl) (hdb : (x == ("__debug__" : Str)) = false := by decide) (he : starEach (e :: es) X.env = (false, eval e X.env) :: starEach es X.env := by rfl) (hpl : (backTo pos (starEach es X.env)).any (·.1) = false := by rfl) :
    DE X W (.Call (.Name x p) (e :: es) [] pos) (wCall sp [] w) := d_call (dds := []) F hr hg hm hk hb .nil (fun _ => .nil) tk ha hn hdb he hpl
end
section
variable {P : Program} {w : World} {K : PySem.W.Frag} {mg : Str → Option Value} {base : Heap} {x qual : Str} {params : Arguments} {body : List Stmt} {scope : Scope} {dvs : List V} {kws : List (Str × V)} {f : Addr} {fd : FuncData}
def startD (N : List Str) (ds : List D) : Env := ds.map some ++ List.replicate (N.length - ds.length) none
/-- the end of a body -/
abbrev finD (P : DP) (Z : XZ) : Fin := { nx := fun _ cs => P .non cs, rt := P, ex := fun x _ cs => Z x cs }
abbrev cxD (P : Program) (w : World) (K : PySem.W.Frag) (mg : Str → Option Value) (base : Heap) (N : List Str) (qual : Str) (scope : Scope) (f : Addr) (cdv : Value) (A : Around) (outer : List PySem.Env) (s : Shared) (H : Hp) (E : XK) : Cx :=
  cxOf (L2.CX P w) P w K mg base N qual scope f cdv A outer s H E
theorem ok_def {N ps : List Str} {k : Nat} {sp : DSp} (F : FunD K x qual params body scope dvs kws f fd) (S : FnScope N ps scope) {u : WS}
    (hb : ∀ (cdv : Value) (A : Around) (outer : List PySem.Env) (s : Shared) (H : Hp) (E : XK), Room k (A.deeper (envOfC qual scope s.heap.objs.size f cdv)) → DSs (cxD P w K mg base N qual scope f cdv A outer s H E) (fun cls d _ H => E cls d H) body u)
    (hsp : ∀ ds cs Q Z, sp ds cs Q Z → ds.length = ps.length → u (finD Q Z) (startD N ds) cs) : FnOk P w K mg base (L2.CX P w) (k + 1) f fd ps (spL K ps.length sp) := by
  refine F.ok S spL_len fun cdv A outer s H vs Q E hr h => ?_
  obtain ⟨F, cs, ds, Pd, Z, st, r, l, hs, pe, px⟩ := h
  refine ⟨_, hb cdv A outer s H E hr, F, cs, startD N ds, finD Pd Z, st, ?_, hsp ds cs Pd Z hs l, ⟨fun H' cs' σ' ρ' s' _ h' => pe H' cs' .non .non s' .non h', fun _ _ _ _ _ _ h => h.elim, fun _ _ _ _ _ _ h => h.elim, pe, fun H' cs' σ' ρ' x d s' _ r' h' => px H' cs' x d s' r' h'⟩⟩
  unfold startD L2.start
  rw [r.length]
  exact RepE.start _ r
end
theorem takesD {P : Program} {w : World} {K : PySem.W.Frag} {mg : Str → Option Value} {base : Heap} {N : List Str} {qual : Str} {scope : Scope} {f : Addr} {cdv : Value} {A : Around} {outer : List PySem.Env} {s : Shared} {H : Hp} {E : XK} :
    Takes (cxD P w K mg base N qual scope f cdv A outer s H E) (fun cls d _ H => E cls d H) := takes_of rfl rfl rfl rfl
theorem passD {P : Program} {w : World} {K : PySem.W.Frag} {mg : Str → Option Value} {base : Heap} {N : List Str} {qual : Str} {scope : Scope} {f : Addr} {cdv : Value} {A : Around} {outer : List PySem.Env} {s : Shared} {H : Hp} {E : XK} :
    PassesOwn (model P w) (cxD P w K mg base N qual scope f cdv A outer s H E).A (cxD P w K mg base N qual scope f cdv A outer s H E).env (cxD P w K mg base N qual scope f cdv A outer s H E).xe :=
  passes_of (X := cxD P w K mg base N qual scope f cdv A outer s H E) rfl
section
variable {X : Cx} {W : WX} {K : PySem.W.Frag} {σ : L2.St} {H : Hp} {pos : Pos} {a b e : Expr} {wa wb : WE}
abbrev DSet := D → D → D → Cs → (Cs → Prop) → Prop
def oSetL : DSet := fun o i v cs Q => match o, i with
  | .opq (.ref p), .int k => (match look p cs with
    | some (.lst ds) => (match ixN ds.length k with
      | some j => Q (put p (.lst (ds.set j v)) cs)
      | none => False)
    | _ => False)
  | _, _ => False
/-- o[i] = v -/
def sSetIx (wv wo wi : WE) (o : DSet) : WS := fun f ρ cs => wv ρ cs (fun v cs1 => wo ρ cs1 (fun x cs2 => wi ρ cs2 (fun i cs3 => o x i v cs3 fun cs4 => f.nx ρ cs4) (fun x cs1 => f.ex x ρ cs1)) (fun x cs1 => f.ex x ρ cs1)) (fun x cs1 => f.ex x ρ cs1)
theorem setL_inv {o i v : D} {cs : Cs} {Q : Cs → Prop} (h : oSetL o i v cs Q) : ∃ p k ds j, o = .opq (.ref p) ∧ i = .int k ∧ look p cs = some (.lst ds) ∧ ixN ds.length k = some j ∧ Q (put p (.lst (ds.set j v)) cs) := by
  unfold oSetL at h
  split at h
  · split at h
    · rename_i e
      split at h
      · rename_i e2
        exact ⟨_, _, _, _, rfl, rfl, e, e2, h⟩
      · exact h.elim
    · exact h.elim
  · exact h.elim
theorem lst_at {K : PySem.W.Frag} {F G0 H : Hp} {cs : Cs} {p : Addr} {ds : List D} (s : Sta K F G0 cs H) (h : look p cs = some (.lst ds)) : ∃ vs, H p = some (.lst vs) ∧ RepL K (pur F cs H) vs ds := by
  obtain ⟨o, e, q⟩ := s.look h
  cases o <;> first | exact ⟨_, e, q⟩ | exact q.elim
theorem ds_setix {o i v : Expr} {wo wi wv : WE} {p1 : Pos} (hv : DE X W v wv) (ho : DE X W o wo) (hi : DE X W i wi)
    (ha : ∀ u, assign (.Subscript o i p1) X.env u = (do
      let ov ← holding [u] (eval o X.env)
      let iv ← holding [u, ov] (eval i X.env)
      standAt p1
      holding [u, ov, iv] (setItem ov iv u)
      release [u, ov, iv] []) := by intro _; rfl)
    (hs : swapsWithSole [.Subscript o i p1] v pos.line X.env = pure false := by rfl) (hw : swappedStores [.Subscript o i p1] v X.env = pure none := by rfl) (h1 : (assignEach [.Subscript o i p1] X.env).map (·.2) = [assign (.Subscript o i p1) X.env] := by rfl) :
    DS X W (.Assign [.Subscript o i p1] v pos) (sSetIx wv wo wi oSetL) := PS.imp (ps_asg hv (pg_sub ho hi set_list ha) hs hw h1) fun E σ H h => by
  obtain ⟨F, cs, ρ, f, s, re, hw, pe⟩ := h
  refine ⟨F, cs, ρ, _, _, s, re, hw, fun H1 cs1 y dy s1 r1 h1 => ?_, pe.px re⟩
  refine ⟨F, cs1, ρ, _, _, s1.self, re.mono s1.gr, h1, fun H2 cs2 x dx s2 r2 h2 => ?_, (pe.le s1.gr).px (re.mono s1.gr)⟩
  refine ⟨F, cs2, ρ, _, _, s2.self, re.mono (s1.gr.trans s2.gr), h2, fun H3 cs3 z dz s3 r3 h3 => ?_, (pe.le (s1.gr.trans s2.gr)).px (re.mono (s1.gr.trans s2.gr))⟩
  obtain ⟨p, k, ds, j, rfl, rfl, hl, hj, h⟩ := setL_inv h3
  obtain ⟨vs, e, rl⟩ := lst_at s3 hl
  cases r2
  cases r3
  have s4 := s3.put hl (m' := .lst (ds.set j dy)) (o' := .lst (vs.set j y)) (rl.set (r1.mono (s2.gr.trans s3.gr)) j)
  refine ⟨p, vs, k, j, rfl, rfl, e, by rw [rl.length]; exact hj, ?_⟩
  have g := (s1.gr.trans s2.gr).trans s3.gr
  exact pe.nx _ _ σ ρ (s4.from_ g) (re.mono (g.trans s4.gr)) h
/-- the i-th item of the changing list at p; len of it -/
def oIxM : DO2 := fun x y cs P => match x, y with
  | .opq (.ref p), .int i => (match look p cs with
    | some (.lst ds) => (match atD ds i with
      | some d => P d cs
      | none => False)
    | _ => False)
  | _, _ => False
theorem adq_ixM : Adq K (rIx K) oIxM := fun F cs H x y dx dy P Q s rx ry ho pe => by
  unfold oIxM at ho
  split at ho
  · split at ho
    · rename_i e
      split at ho
      · rename_i d e2
        cases rx
        cases ry
        obtain ⟨vs, e3, rl⟩ := lst_at s e
        obtain ⟨v, e4, rv⟩ := rl.atI e2
        exact .inl ⟨_, _, _, v, rfl, rfl, SqL.of e3, e4, pe H cs _ _ s rv ho⟩
      · exact ho.elim
    · exact ho.elim
  · exact ho.elim
theorem d_ixM (ha : DE X W a wa) (hb : DE X W b wb) (hs : PlainIx b := by intro _ _; rfl) : DE X W (.Subscript a b pos) (wOp oIxM wa wb) := d_ix ix_seq adq_ixM ha hb hs
/-- methods of lists that change -/
abbrev DMt := D → List D → Cs → DP → Prop
def oAppend : DMt := fun x ds cs P => match x, ds with
  | .opq (.ref p), [d] => (match look p cs with
    | some (.lst xs) => xs.length < 100000 ∧ P .non (put p (.lst (xs ++ [d])) cs)
    | _ => False)
  | _, _ => False
theorem append_inv {x : D} {ds : List D} {cs : Cs} {P : DP} (h : oAppend x ds cs P) : ∃ p d xs, x = .opq (.ref p) ∧ ds = [d] ∧ look p cs = some (.lst xs) ∧ xs.length < 100000 ∧ P .non (put p (.lst (xs ++ [d])) cs) := by
  unfold oAppend at h
  split at h
  · split at h
    · rename_i e
      exact ⟨_, _, _, rfl, rfl, e, h.1, h.2⟩
    · exact h.elim
  · exact h.elim
end
end DL
namespace DL
open PySem L2
def dR (r : Rat) : D := .tup [.int r.num, .int (r.den : Int)]
theorem eqD_int (i j : Int) : eqD (.int i) (.int j) = decide (i = j) := by
  unfold eqD
  rw [Bool.beq_eq_decide_eq]
theorem eqD_dR (r s : Rat) : eqD (dR r) (dR s) = decide (r = s) := by
  unfold dR
  simp only [eqD, eqL, Bool.and_true]
  rw [Bool.beq_eq_decide_eq, Bool.beq_eq_decide_eq, ← Bool.decide_and]
  have e : (r.num = s.num ∧ (r.den : Int) = (s.den : Int)) ↔ r = s := ⟨fun h => Rat.ext h.1 (Int.ofNat_inj.mp h.2), fun h => by rw [h]; exact ⟨rfl, rfl⟩⟩
  exact decide_eq_decide.mpr e
/-- both numbers below 2 ^ n -/
def Sz (n : Nat) (r : Rat) : Prop := r.num.natAbs < 2 ^ n ∧ r.den < 2 ^ n
theorem Sz.mono {n m : Nat} {r : Rat} (h : Sz n r) (l : n ≤ m) : Sz m r :=
  ⟨Nat.lt_of_lt_of_le h.1 (Nat.pow_le_pow_right (by decide) l), Nat.lt_of_lt_of_le h.2 (Nat.pow_le_pow_right (by decide) l)⟩
theorem mulOk_of {i j : Int} {a b : Nat} (ha : i.natAbs < 2 ^ a) (hb : j.natAbs < 2 ^ b) (h : a + b ≤ 900000) : IntMulOk i j := by
  have ha' : i.natAbs < 2 ^ (a + 1) := Nat.lt_of_lt_of_le ha (Nat.pow_le_pow_right (by decide) (Nat.le_succ _))
  have hb' : j.natAbs < 2 ^ (b + 1) := Nat.lt_of_lt_of_le hb (Nat.pow_le_pow_right (by decide) (Nat.le_succ _))
  exact CMulW.ok (wide_mul ha' hb' (Nat.succ_pos _) (Nat.succ_pos _) (by omega))
theorem mulOk_r {i j : Int} (h : j.natAbs < 2 ^ 64) : IntMulOk i j := CMul.ok (Or.inr (by omega))
theorem mulOk_l {i j : Int} (h : i.natAbs < 2 ^ 64) : IntMulOk i j := CMul.ok (Or.inl (by omega))
theorem gcd_pos {a b : Nat} (h : 0 < b) : 0 < Nat.gcd a b := Nat.gcd_pos_of_pos_right a h
/-- what part reckons -/
theorem part_pos (a b : Int) (h : 0 < b) : a / (Nat.gcd a.natAbs b.natAbs : Nat) = (Rat.divInt a b).num ∧ b / (Nat.gcd a.natAbs b.natAbs : Nat) = ((Rat.divInt a b).den : Int) := by
  have e : (Int.gcd b a) = Nat.gcd a.natAbs b.natAbs := by rw [Int.gcd, Nat.gcd_comm]
  constructor
  · rw [Rat.num_divInt, Int.sign_eq_one_of_pos h, Int.one_mul, e]
  · rw [Rat.den_divInt, if_neg (by omega), e]
    have : (b.natAbs : Int) = b := by omega
    rw [Int.natCast_ediv, this]
theorem part_neg (a b : Int) : Rat.divInt (-a) (-b) = Rat.divInt a b := Rat.neg_divInt_neg a b
theorem divInt_add (x y : Rat) : Rat.divInt (x.num * y.den + y.num * x.den) ((x.den : Int) * y.den) = x + y := by
  rw [Rat.add_def', ← Int.natCast_mul, Rat.divInt_ofNat]
theorem divInt_mul (x y : Rat) : Rat.divInt (x.num * y.num) ((x.den : Int) * y.den) = x * y := by
  rw [Rat.mul_def', ← Int.natCast_mul, Rat.divInt_ofNat]
theorem divInt_div (x y : Rat) : Rat.divInt (x.num * y.den) ((x.den : Int) * y.num) = x / y := by
  rw [Rat.div_def, Rat.inv_def, ← Rat.divInt_mul_divInt, Rat.num_divInt_den]
theorem den_ne (x : Rat) : (x.den : Int) ≠ 0 := by have := x.den_nz; omega
theorem den_pos (x : Rat) : (0 : Int) < x.den := by have := x.den_nz; omega
theorem gcd_ok {a b : Nat} (hb : 0 < b) (h : b < 2 ^ 9000) : (0 : Int) < (Nat.gcd a b : Int) ∧ (Nat.gcd a b : Int).natAbs.log2 < 9000 := by
  refine ⟨by have := gcd_pos (a := a) hb; omega, ?_⟩
  refine PySem.Flt.log2_lt_of (by decide) ?_
  rw [Int.natAbs_natCast]
  exact Nat.lt_of_le_of_lt (Nat.gcd_le_right _ hb) h
theorem abs_nat (a : Int) : (if a < 0 then -a else a) = (a.natAbs : Int) := by
  split <;> omega
theorem Sz.divInt {a b : Int} {n m : Nat} (h0 : b ≠ 0) (ha : a.natAbs < 2 ^ n) (hb : b.natAbs < 2 ^ m) (hn : n ≤ m) : Sz m (Rat.divInt a b) := by
  have ha' : a.natAbs < 2 ^ m := Nat.lt_of_lt_of_le ha (Nat.pow_le_pow_right (by decide) hn)
  constructor
  · rw [Rat.num_divInt]
    refine Nat.lt_of_le_of_lt ?_ ha'
    refine Nat.le_trans (Int.natAbs_ediv_le_natAbs _ _) ?_
    rw [Int.natAbs_mul]
    have : b.sign.natAbs ≤ 1 := by
      rcases Int.lt_trichotomy b 0 with h | h | h
      · rw [Int.sign_eq_neg_one_of_neg h]; decide
      · exact absurd h h0
      · rw [Int.sign_eq_one_of_pos h]; decide
    exact Nat.le_trans (Nat.mul_le_mul_right _ this) (by omega)
  · rw [Rat.den_divInt, if_neg h0]
    exact Nat.lt_of_le_of_lt (Nat.div_le_self _ _) hb
theorem lt_mul2 {a b n m : Nat} (ha : a < 2 ^ n) (hb : b < 2 ^ m) : a * b < 2 ^ (n + m) := by
  rw [Nat.pow_add]
  exact Nat.mul_lt_mul'' ha hb
theorem lt_add2 {a b n : Nat} (ha : a < 2 ^ n) (hb : b < 2 ^ n) : a + b < 2 ^ (n + 1) := by
  rw [Nat.pow_succ]; omega
theorem Sz.add {n m : Nat} {x y : Rat} (hx : Sz n x) (hy : Sz m y) : Sz (n + m + 1) (x + y) := by
  rw [← divInt_add]
  refine Sz.divInt (n := n + m + 1) (Int.mul_ne_zero (den_ne x) (den_ne y)) ?_ ?_ (Nat.le_refl _)
  · refine Nat.lt_of_le_of_lt (Int.natAbs_add_le _ _) ?_
    refine lt_add2 ?_ ?_
    · rw [Int.natAbs_mul]; exact lt_mul2 hx.1 hy.2
    · rw [Int.natAbs_mul, Nat.add_comm]; exact lt_mul2 hy.1 hx.2
  · rw [Int.natAbs_mul]
    exact Nat.lt_of_lt_of_le (lt_mul2 hx.2 hy.2) (Nat.pow_le_pow_right (by decide) (Nat.le_succ _))
theorem Sz.neg {n : Nat} {x : Rat} (hx : Sz n x) : Sz n (-x) := ⟨by rw [Rat.neg_num, Int.natAbs_neg]; exact hx.1, by rw [Rat.neg_den]; exact hx.2⟩
theorem Sz.sub {n m : Nat} {x y : Rat} (hx : Sz n x) (hy : Sz m y) : Sz (n + m + 1) (x - y) := by
  rw [Rat.sub_eq_add_neg]; exact hx.add hy.neg
theorem Sz.mul {n m : Nat} {x y : Rat} (hx : Sz n x) (hy : Sz m y) : Sz (n + m) (x * y) := by
  rw [← divInt_mul]
  refine Sz.divInt (n := n + m) (Int.mul_ne_zero (den_ne x) (den_ne y)) ?_ ?_ (Nat.le_refl _)
  · rw [Int.natAbs_mul]; exact lt_mul2 hx.1 hy.1
  · rw [Int.natAbs_mul]; exact lt_mul2 hx.2 hy.2
theorem Sz.div {n m : Nat} {x y : Rat} (hx : Sz n x) (hy : Sz m y) (h : y ≠ 0) : Sz (n + m) (x / y) := by
  rw [← divInt_div]
  refine Sz.divInt (n := n + m) (Int.mul_ne_zero (den_ne x) (fun z => h (Rat.num_eq_zero.mp z))) ?_ ?_ (Nat.le_refl _)
  · rw [Int.natAbs_mul]; exact lt_mul2 hx.1 hy.2
  · rw [Int.natAbs_mul]; exact lt_mul2 hx.2 hy.1
theorem Sz.nn {n m : Nat} {x y : Rat} (hx : Sz n x) (hy : Sz m y) (h : n + m ≤ 900000 := by decide) : IntMulOk x.num y.num := mulOk_of hx.1 hy.1 h
theorem Sz.nd {n m : Nat} {x y : Rat} (hx : Sz n x) (hy : Sz m y) (h : n + m ≤ 900000 := by decide) : IntMulOk x.num (y.den : Int) := mulOk_of hx.1 (by rw [Int.natAbs_natCast]; exact hy.2) h
theorem Sz.dn {n m : Nat} {x y : Rat} (hx : Sz n x) (hy : Sz m y) (h : n + m ≤ 900000 := by decide) : IntMulOk (x.den : Int) y.num := mulOk_of (by rw [Int.natAbs_natCast]; exact hx.2) hy.1 h
theorem Sz.dd {n m : Nat} {x y : Rat} (hx : Sz n x) (hy : Sz m y) (h : n + m ≤ 900000 := by decide) : IntMulOk (x.den : Int) (y.den : Int) := mulOk_of (by rw [Int.natAbs_natCast]; exact hx.2) (by rw [Int.natAbs_natCast]; exact hy.2) h
theorem dd_ok {n m : Nat} {x y : Rat} (hx : Sz n x) (hy : Sz m y) (h : n + m ≤ 9000) : ((x.den : Int) * (y.den : Int)).natAbs < 2 ^ 9000 := by
  rw [Int.natAbs_mul]
  exact Nat.lt_of_lt_of_le (lt_mul2 hx.2 hy.2) (Nat.pow_le_pow_right (by decide) h)
theorem dn_ok {n m : Nat} {x y : Rat} (hx : Sz n x) (hy : Sz m y) (h : n + m ≤ 9000) : ((x.den : Int) * y.num).natAbs < 2 ^ 9000 := by
  rw [Int.natAbs_mul]
  exact Nat.lt_of_lt_of_le (lt_mul2 hx.2 hy.1) (Nat.pow_le_pow_right (by decide) h)
/-- the greater of x by y and y by x -/
def shapeR (x y : Rat) : Rat := if x < y then y / x else x / y
theorem Sz.shape {n m : Nat} {x y : Rat} (hx : Sz n x) (hy : Sz m y) (x0 : 0 < x) (y0 : 0 < y) : Sz (n + m) (shapeR x y) := by
  unfold shapeR
  split
  · rw [Nat.add_comm]; exact hy.div hx (Rat.ne_of_gt x0)
  · exact hx.div hy (Rat.ne_of_gt y0)
end DL
namespace DL
open PySem PySem.Spec PyProof.Rows L2
section
variable {X : Cx} {W : WX} {K : PySem.W.Frag} {σ : L2.St} {H : Hp} {pos : Pos} {a b e : Expr} {es : List Expr} {wa wb we : DL.WE} {w : WA} {name : Str} {apos cpos : Pos} {T id : String}
def AdqM (K : PySem.W.Frag) (T : String) (r : V → List V → Hp → VK → Prop) (o : DMt) : Prop := ∀ F cs H x xs dx ds P Q, Sta K F (pur F cs H) cs H → Rep K (pur F cs H) x dx → RepL K (pur F cs H) xs ds → o dx ds cs P → PostE K F (pur F cs H) P Q → r x xs H Q
def isL (d : D) (cs : Cs) : Prop := match d with
  | .lst _ => True
  | .opq (.ref p) => (match look p cs with
    | some (.lst _) => True
    | _ => False)
  | _ => False
theorem isL_ty {F : Hp} {cs : Cs} {x : V} {dx : D} (s : Sta K F (pur F cs H) cs H) (r : Rep K (pur F cs H) x dx) (h : isL dx cs) : tyV K "list" x H := by
  unfold isL at h
  split at h
  · cases r with
    | lst h r => exact .inl ⟨rfl, _, ex_l pur_le h⟩
  · split at h
    · rename_i e
      obtain ⟨vs, e2, _⟩ := lst_at s e
      cases r
      exact .inl ⟨rfl, _, SqL.of e2⟩
    · exact h.elim
  · exact h.elim
def wMtL (o : DMt) (wo : DL.WE) (w : WA) : DL.WE := fun ρ cs P Z => wo ρ cs (fun x cs1 => isL x cs1 ∧ w ρ cs1 (fun ds cs2 => o x ds cs2 P) Z) Z
theorem d_bmL {r : V → List V → Hp → VK → Prop} {o : DMt} (slot : Slot "list" name id) (hty : typeOf (.builtin id) = pure (.type "method_descriptor")) (hm : MtR X id r) (adq : AdqM X.K "list" r o) (ho : DE X W a wa) (ha : DA X W (e :: es) w)
    (hbase : attributeBase a name X.env (eval a X.env) = eval a X.env := by rfl)
    (hfew : ((backTo cpos (starEach (e :: es) X.env)).all (fun x => !x.1) && (backToKw cpos (keywordEach [] X.env)).all (fun x => x.1.isSome)
      && decide ((e :: es).length + ([] : List Keyword).length + (if ([] : List Keyword).isEmpty then 0 else 1) < 30)) = true := by rfl)
    (hline : (apos.endLine == cpos.line) = true := by rfl) (hs : starEach (e :: es) X.env = (false, eval e X.env) :: starEach es X.env := by rfl) (hplain : (backTo cpos (starEach es X.env)).any (·.1) = false := by rfl) :
    DE X W (.Call (.Attribute a name apos) (e :: es) [] cpos) (wMtL o wa w) := PE.imp (pe_bm PySem.F.plainAttrs_list slot hty hm ho ha hbase hfew hline hs hplain) fun σ H Q h => by
  obtain ⟨F, cs, ρ, P, Z, s, re, hw, pe, px⟩ := h
  refine ⟨F, cs, ρ, _, Z, s, re, hw, fun H1 cs1 x dx s1 r1 h1 => ⟨isL_ty s1.self r1 h1.1, ?_⟩, px⟩
  refine ⟨F, cs1, ρ, _, Z, s1.self, re.mono s1.gr, h1.2, fun H2 cs2 vs ds s2 r2 l2 h2 => ?_, px.le s1.gr⟩
  exact adq F cs2 H2 x vs dx ds P Q s2.self (r1.mono s2.gr) r2 h2 (pe.le (s1.gr.trans s2.gr))
def wMtL0 (o : DMt) (wo : DL.WE) : DL.WE := fun ρ cs P Z => wo ρ cs (fun x cs1 => isL x cs1 ∧ o x [] cs1 P) Z
theorem adq_append : AdqM K "list" rAppend oAppend := fun F cs H x xs dx ds P Q s rx rl ho pe => by
  obtain ⟨p, d, ys, rfl, rfl, hl, hz, h⟩ := append_inv ho
  obtain ⟨vs, e, rv⟩ := lst_at s hl
  cases rx
  cases rl with
  | cons r1 r2 =>
    cases r2
    have s4 := s.put hl (m' := .lst (ys ++ [d])) (o' := .lst (vs ++ [_])) (rv.append (.cons r1 .nil))
    exact ⟨p, vs, _, rfl, rfl, e, by rw [rv.length]; exact Nat.lt_of_lt_of_le hz (by decide), pe _ _ _ _ s4 .non h⟩
theorem d_append (ho : DE X W a wa) (ha : DA X W [e] w) (hbase : attributeBase a "append" X.env (eval a X.env) = eval a X.env := by rfl)
    (hfew : ((backTo cpos (starEach [e] X.env)).all (fun x => !x.1) && (backToKw cpos (keywordEach [] X.env)).all (fun x => x.1.isSome)
      && decide ([e].length + ([] : List Keyword).length + (if ([] : List Keyword).isEmpty then 0 else 1) < 30)) = true := by rfl)
    (hline : (apos.endLine == cpos.line) = true := by rfl) (hs : starEach [e] X.env = (false, eval e X.env) :: starEach [] X.env := by rfl) (hplain : (backTo cpos (starEach [] X.env)).any (·.1) = false := by rfl) :
    DE X W (.Call (.Attribute a "append" apos) [e] [] cpos) (wMtL oAppend wa w) := d_bmL PySem.F.slot_list_append PySem.F.type_list_append mt_append adq_append ho ha hbase hfew hline hs hplain
def cntD (xs : List D) (d : D) : Nat := xs.countP fun y => eqD y d
def oCount : DMt := fun x ds cs P => match x, ds with
  | .lst xs, [d] => plL 20 xs = true ∧ plD 20 d = true ∧ P (.int (cntD xs d : Int)) cs
  | _, _ => False
end
end DL
namespace DL
open PySem PySem.Spec PyProof.Rows L2
section
variable {ρ : DL.Env} {cs : Cs} {P : DP} {Z : XZ} {wa wb we wo wi wv : DL.WE} {w : WA} {ta tb : WT} {u v : WS} {f : Fin} {Q : Bool → Cs → Prop} {d x y : D} {i j : Nat} {PA : List D → Cs → Prop}
section
variable {nx bk ct : DL.Env → Cs → Prop} {rt : D → Cs → Prop} {ex : Exn → DL.Env → Cs → Prop}
theorem r_seq (h : u ⟨fun ρ' cs' => v ⟨nx, rt, ex, bk, ct⟩ ρ' cs', rt, ex, bk, ct⟩ ρ cs) : sSeq u v ⟨nx, rt, ex, bk, ct⟩ ρ cs := h
theorem r_key (N : DL.Env → Cs → Prop) (h1 : ∀ ρ' cs', N ρ' cs' → v ⟨nx, rt, ex, bk, ct⟩ ρ' cs') (h2 : ∀ nx' : DL.Env → Cs → Prop, (∀ ρ' cs', N ρ' cs' → nx' ρ' cs') → u ⟨nx', rt, ex, bk, ct⟩ ρ cs) : sSeq u v ⟨nx, rt, ex, bk, ct⟩ ρ cs := h2 _ h1
end
theorem r_loop {g : WG} {wb : WS} (I : Nat → DL.Env → Cs → Prop) : ∀ (xs : List D) (k : Nat) {ρ : DL.Env} {cs : Cs}, I k ρ cs →
    (∀ i d ρ cs (N : DL.Env → Cs → Prop), xs[i]? = some d → I (k + i) ρ cs → (∀ ρ' cs', I (k + i + 1) ρ' cs' → N ρ' cs') → g d ρ fun ρ1 => wb { f with nx := N, ct := N, bk := f.nx } ρ1 cs) →
    (∀ ρ cs, I (k + xs.length) ρ cs → f.nx ρ cs) → loopW g wb f xs ρ cs
  | [], k, ρ, cs, h0, hs, hd => hd ρ cs h0
  | d :: r, k, ρ, cs, h0, hs, hd => by
    refine hs 0 d ρ cs _ rfl h0 fun ρ' cs' h1 => r_loop I r (k + 1) h1 (fun i d ρ cs N e hi hn => ?_) (fun ρ cs h => ?_)
    · have e1 : k + (i + 1) = k + 1 + i := by omega
      refine hs (i + 1) d ρ cs N e (by rw [e1]; exact hi) fun ρ' cs' hh => hn ρ' cs' (by rw [← e1]; exact hh)
    · refine hd ρ cs ?_
      have e1 : k + (d :: r).length = k + 1 + r.length := by rw [List.length_cons]; omega
      rw [e1]; exact h
theorem r_loop0 {nx bk ct : DL.Env → Cs → Prop} {rt : D → Cs → Prop} {ex : Exn → DL.Env → Cs → Prop} {g : WG} {wb : WS} (I : Nat → DL.Env → Cs → Prop) {xs : List D} (h0 : I 0 ρ cs)
    (hs : ∀ i d ρ cs (N : DL.Env → Cs → Prop), xs[i]? = some d → I i ρ cs → (∀ ρ' cs', I (i + 1) ρ' cs' → N ρ' cs') → g d ρ fun ρ1 => wb ⟨N, rt, ex, nx, N⟩ ρ1 cs)
    (hd : ∀ ρ cs, I xs.length ρ cs → nx ρ cs) : loopW g wb ⟨nx, rt, ex, bk, ct⟩ xs ρ cs :=
  r_loop I xs 0 h0 (fun i d ρ cs N e hi hn => hs i d ρ cs N e (by rw [Nat.zero_add] at hi; exact hi) (by rw [Nat.zero_add] at hn; exact hn)) (fun ρ cs h => hd ρ cs (by rw [Nat.zero_add] at h; exact h))
theorem r_while {nx bk ct : DL.Env → Cs → Prop} {rt : D → Cs → Prop} {ex : Exn → DL.Env → Cs → Prop} {wt : WT} {wb : WS} (I : Nat → DL.Env → Cs → Prop) (h0 : ∃ m, I m ρ cs)
    (hs : ∀ m ρ cs (N : DL.Env → Cs → Prop), I m ρ cs → (∀ m' ρ' cs', m' < m → I m' ρ' cs' → N ρ' cs') → wt ρ cs (fun k cs1 => (k = true → wb ⟨N, rt, ex, nx, N⟩ ρ cs1) ∧ (k = false → nx ρ cs1)) (fun x cs1 => ex x ρ cs1)) :
    sWhile wt wb ⟨nx, rt, ex, bk, ct⟩ ρ cs := ⟨I, h0, fun m ρ cs h => hs m ρ cs _ h fun m' ρ' cs' hm hi => ⟨m', hm, hi⟩⟩
theorem r_gN {k : DL.Env → Prop} (h : k (ρ.set i (some d))) : gN i d ρ k := h
theorem r_gT {n : Nat} {gs : WGs} {ds : List D} {k : DL.Env → Prop} (hn : ds.length = n) (h : gs ds ρ k) : gT n gs (.tup ds) ρ k := ⟨hn, h⟩
theorem r_gCn {g : WG} {gs : WGs} {ds : List D} {k : DL.Env → Prop} (h : g d ρ fun ρ' => gs ds ρ' k) : gCn g gs (d :: ds) ρ k := h
theorem r_gNl {k : DL.Env → Prop} (h : k ρ) : gNl [] ρ k := h
theorem rng_get {lo : Int} {n i : Nat} {d : D} (h : (rngD lo n)[i]? = some d) : d = .int (lo + (i : Int)) ∧ i < n := by
  obtain ⟨h1, h2⟩ := List.getElem?_eq_some_iff.mp h
  simp [rngD] at h1 h2
  exact ⟨h2.symm, h1⟩
theorem rng_len (lo : Int) (n : Nat) : (rngD lo n).length = n := by simp [rngD]
theorem r_kT {A B : Prop} (h : A) : (true = true → A) ∧ (true = false → B) := ⟨fun _ => h, fun z => absurd z (by decide)⟩
theorem r_nT {A B : Prop} (h : B) : ((!true) = true → A) ∧ ((!true) = false → B) := ⟨fun z => absurd z (by decide), fun _ => h⟩
theorem r_nF {A B : Prop} (h : A) : ((!false) = true → A) ∧ ((!false) = false → B) := ⟨fun _ => h, fun z => absurd z (by decide)⟩
theorem r_kF {A B : Prop} (h : B) : (false = true → A) ∧ (false = false → B) := ⟨fun z => absurd z (by decide), fun _ => h⟩
section
variable {nx bk ct : DL.Env → Cs → Prop} {rt : D → Cs → Prop} {ex : Exn → DL.Env → Cs → Prop}
theorem r_nx (h : nx ρ cs) : Fin.nx ⟨nx, rt, ex, bk, ct⟩ ρ cs := h
theorem r_rt (h : rt d cs) : Fin.rt ⟨nx, rt, ex, bk, ct⟩ d cs := h
theorem r_bk (h : bk ρ cs) : Fin.bk ⟨nx, rt, ex, bk, ct⟩ ρ cs := h
theorem r_cn (h : ct ρ cs) : Fin.ct ⟨nx, rt, ex, bk, ct⟩ ρ cs := h
end
theorem r_next (h : f.nx ρ cs) : sNext f ρ cs := h
theorem r_ret (h : we ρ cs f.rt (fun x cs1 => f.ex x ρ cs1)) : sRet we f ρ cs := h
theorem r_retN (h : f.rt .non cs) : sRetN f ρ cs := h
theorem r_drop (h : we ρ cs (fun _ cs1 => f.nx ρ cs1) (fun x cs1 => f.ex x ρ cs1)) : sDrop we f ρ cs := h
theorem r_brk (h : f.bk ρ cs) : sBreak f ρ cs := h
theorem r_ct (h : f.ct ρ cs) : sCont f ρ cs := h
theorem r_sif (h : ta ρ cs (fun k cs1 => (k = true → u f ρ cs1) ∧ (k = false → v f ρ cs1)) (fun x cs1 => f.ex x ρ cs1)) : sIf ta u v f ρ cs := h
theorem r_set (h : we ρ cs (fun d cs1 => f.nx (ρ.set i (some d)) cs1) (fun x cs1 => f.ex x ρ cs1)) : sAsg we (gN i) f ρ cs := h
theorem r_asg {g : WG} (h : we ρ cs (fun d cs1 => g d ρ fun ρ' => f.nx ρ' cs1) (fun x cs1 => f.ex x ρ cs1)) : sAsg we g f ρ cs := h
theorem r_par (h : wa ρ cs (fun x cs1 => wb ρ cs1 (fun y cs2 => f.nx ((ρ.set i (some x)).set j (some y)) cs2) (fun x cs1 => f.ex x ρ cs1)) (fun x cs1 => f.ex x ρ cs1)) : sPar i j (wCons wa (wCons wb wNil)) f ρ cs := h
theorem r_setix (h : wv ρ cs (fun v cs1 => wo ρ cs1 (fun x cs2 => wi ρ cs2 (fun i cs3 => oSetL x i v cs3 fun cs4 => f.nx ρ cs4) (fun x cs1 => f.ex x ρ cs1)) (fun x cs1 => f.ex x ρ cs1)) (fun x cs1 => f.ex x ρ cs1)) : sSetIx wv wo wi oSetL f ρ cs := h
theorem r_aug {o : DO2} (hi : ρ[i]? = some (some x)) (h : we ρ cs (fun y cs1 => o x y cs1 fun z cs2 => f.nx (ρ.set i (some z)) cs2) (fun x cs1 => f.ex x ρ cs1)) : sAug i o we f ρ cs := by
  unfold sAug; rw [hi]; exact h
theorem r_for {wi : WI} {g : WG} (h : wi ρ cs (fun xs cs1 => loopW g u f xs ρ cs1) (fun x cs1 => f.ex x ρ cs1)) : sFor wi g u f ρ cs := h
theorem r_var (hi : ρ[i]? = some (some d)) (h : P d cs) : wVar i ρ cs P Z := by
  unfold wVar; rw [hi]; exact h
theorem r_c (h : P d cs) : wC d ρ cs P Z := h
theorem r_op {o : DO2} (h : wa ρ cs (fun x cs1 => wb ρ cs1 (fun y cs2 => o x y cs2 P) Z) Z) : wOp o wa wb ρ cs P Z := h
theorem r_un {o : D → Cs → DP → Prop} (h : wa ρ cs (fun x cs1 => o x cs1 P) Z) : wUn o wa ρ cs P Z := h
theorem r_test (h : wa ρ cs (fun x cs1 => match x with | .bl k => Q k cs1 | _ => False) Z) : wTest wa ρ cs Q Z := h
theorem r_and (h : ta ρ cs (fun k cs1 => (k = true → tb ρ cs1 Q Z) ∧ (k = false → Q false cs1)) Z) : wAnd ta tb ρ cs Q Z := h
theorem r_or (h : ta ρ cs (fun k cs1 => (k = true → Q true cs1) ∧ (k = false → tb ρ cs1 Q Z)) Z) : wOr ta tb ρ cs Q Z := h
theorem r_not (h : ta ρ cs (fun k cs1 => Q (!k) cs1) Z) : wNot ta ρ cs Q Z := h
theorem r_if (h : ta ρ cs (fun k cs1 => (k = true → wa ρ cs1 P Z) ∧ (k = false → wb ρ cs1 P Z)) Z) : wIf ta wa wb ρ cs P Z := h
theorem r_andV (h : wa ρ cs (fun x cs1 => match x with | .bl k => (k = true → wb ρ cs1 P Z) ∧ (k = false → P (.bl false) cs1) | _ => False) Z) : wAndV wa wb ρ cs P Z := h
theorem r_orV (h : wa ρ cs (fun x cs1 => match x with | .bl k => (k = true → P (.bl true) cs1) ∧ (k = false → wb ρ cs1 P Z) | _ => False) Z) : wOrV wa wb ρ cs P Z := h
theorem r_notV (h : wa ρ cs (fun x cs1 => match x with | .bl k => P (.bl (!k)) cs1 | _ => False) Z) : wNotV wa ρ cs P Z := h
theorem r_nil (h : PA [] cs) : wNil ρ cs PA Z := h
theorem r_cons (h : we ρ cs (fun x cs1 => w ρ cs1 (fun xs cs2 => PA (x :: xs) cs2) Z) Z) : wCons we w ρ cs PA Z := h
theorem r_tup (h : w ρ cs (fun ds cs1 => P (.tup ds) cs1) Z) : wTup w ρ cs P Z := h
theorem r_lst (h : w ρ cs (fun ds cs1 => P (.lst ds) cs1) Z) : wLst w ρ cs P Z := h
theorem r_cb {o : DOn} (h : w ρ cs (fun ds cs1 => o ds cs1 P) Z) : wCB o w ρ cs P Z := h
theorem r_call {sp : DSp} (h : w ρ cs (fun ds cs1 => sp ds cs1 P Z) Z) : wCall sp [] w ρ cs P Z := by
  unfold wCall
  have e : (fun (ds : List D) (cs1 : Cs) => sp (ds ++ []) cs1 P Z) = fun ds cs1 => sp ds cs1 P Z := by
    funext ds cs1
    rw [List.append_nil]
  rw [e]
  exact h
theorem r_mtL {o : DMt} (h : wo ρ cs (fun x cs1 => isL x cs1 ∧ w ρ cs1 (fun ds cs2 => o x ds cs2 P) Z) Z) : wMtL o wo w ρ cs P Z := h
theorem r_mtL0 {o : DMt} (h : wo ρ cs (fun x cs1 => isL x cs1 ∧ o x [] cs1 P) Z) : wMtL0 o wo ρ cs P Z := h
variable {a b : Int} {p : Addr} {xs : List D}
theorem r_add (h : P (.int (a + b)) cs) : oAdd (.int a) (.int b) cs P := h
theorem r_sub (h : P (.int (a - b)) cs) : oSub (.int a) (.int b) cs P := h
theorem r_mul (hm : IntMulOk a b) (h : P (.int (a * b)) cs) : oMul (.int a) (.int b) cs P := ⟨hm, h⟩
theorem r_div (hm : 0 < b ∧ b.natAbs.log2 < 9000) (h : P (.int (a / b)) cs) : oDiv (.int a) (.int b) cs P := ⟨hm, h⟩
theorem r_mod (hm : 0 < b) (h : P (.int (a % b)) cs) : oMod (.int a) (.int b) cs P := ⟨hm, h⟩
theorem r_pow (hm : CPow a b) (h : P (.int (a ^ b.toNat)) cs) : oPow (.int a) (.int b) cs P := ⟨hm, h⟩
theorem r_lt (h : P (.bl (decide (a < b))) cs) : oLt (.int a) (.int b) cs P := h
theorem r_le (h : P (.bl (decide (a ≤ b))) cs) : oLe (.int a) (.int b) cs P := h
theorem r_gt (h : P (.bl (decide (b < a))) cs) : oGt (.int a) (.int b) cs P := h
theorem r_ge (h : P (.bl (decide (b ≤ a))) cs) : oGe (.int a) (.int b) cs P := h
theorem r_neg (h : P (.int (-a)) cs) : oNeg (.int a) cs P := h
theorem r_eqI (h : P (.bl (decide (a = b))) cs) : oEq (.int a) (.int b) cs P := ⟨rfl, rfl, by rw [eqD_int]; exact h⟩
theorem r_neI (h : P (.bl (!decide (a = b))) cs) : oNe (.int a) (.int b) cs P := ⟨rfl, rfl, by rw [eqD_int]; exact h⟩
theorem r_eqS {s t : Str} (h : P (.bl (decide (s = t))) cs) : oEq (.str s) (.str t) cs P := ⟨rfl, rfl, by
  have e : eqD (.str s) (.str t) = decide (s = t) := by unfold eqD; rw [Bool.beq_eq_decide_eq]
  rw [e]; exact h⟩
theorem r_neS {s t : Str} (h : P (.bl (!decide (s = t))) cs) : oNe (.str s) (.str t) cs P := ⟨rfl, rfl, by
  have e : eqD (.str s) (.str t) = decide (s = t) := by unfold eqD; rw [Bool.beq_eq_decide_eq]
  rw [e]; exact h⟩
theorem eqD_bl (k l : Bool) : eqD (.bl k) (.bl l) = (k == l) := by unfold eqD; rfl
theorem r_eqB {k l : Bool} (h : P (.bl (k == l)) cs) : oEq (.bl k) (.bl l) cs P := ⟨rfl, rfl, by rw [eqD_bl]; exact h⟩
theorem r_neB {k l : Bool} (h : P (.bl (!(k == l))) cs) : oNe (.bl k) (.bl l) cs P := ⟨rfl, rfl, by rw [eqD_bl]; exact h⟩
theorem plD_dR (r : Rat) {n : Nat} : plD (n + 1) (dR r) = true := by
  cases n <;> rfl
theorem r_eqR {r s : Rat} (h : P (.bl (decide (r = s))) cs) : oEq (dR r) (dR s) cs P := ⟨plD_dR r, plD_dR s, by rw [eqD_dR]; exact h⟩
theorem r_neR {r s : Rat} (h : P (.bl (!decide (r = s))) cs) : oNe (dR r) (dR s) cs P := ⟨plD_dR r, plD_dR s, by rw [eqD_dR]; exact h⟩
theorem r_ixT (hi : atD xs a = some d) (h : P d cs) : oIx (.tup xs) (.int a) cs P := by
  unfold oIx; simp only [hi]; exact h
theorem r_ixL (hi : atD xs a = some d) (h : P d cs) : oIx (.lst xs) (.int a) cs P := by
  unfold oIx; simp only [hi]; exact h
theorem r_ixR0 {r : Rat} (h : P (.int r.num) cs) : oIx (dR r) (.int 0) cs P := h
theorem r_ixR1 {r : Rat} (h : P (.int (r.den : Int)) cs) : oIx (dR r) (.int 1) cs P := h
theorem r_ixM (hl : look p cs = some (.lst xs)) (hi : atD xs a = some d) (h : P d cs) : oIxM (.opq (.ref p)) (.int a) cs P := by
  unfold oIxM; simp only [hl, hi]; exact h
theorem r_setL {R : Cs → Prop} (hl : look p cs = some (.lst xs)) (hi : ixN xs.length a = some j) (h : R (put p (.lst (xs.set j d)) cs)) : oSetL (.opq (.ref p)) (.int a) d cs R := by
  unfold oSetL; simp only [hl, hi]; exact h
theorem r_abs (h : P (.int (if a < 0 then -a else a)) cs) : oAbs [.int a] cs P := h
theorem r_lenL (h : P (.int (xs.length : Int)) cs) : oLen [.lst xs] cs P := h
theorem r_lenT (h : P (.int (xs.length : Int)) cs) : oLen [.tup xs] cs P := h
theorem r_listL (h : P (.lst xs) cs) : oList [.lst xs] cs P := h
theorem r_listT (h : P (.lst xs) cs) : oList [.tup xs] cs P := h
theorem r_append (hl : look p cs = some (.lst xs)) (hz : xs.length < 100000) (h : P .non (put p (.lst (xs ++ [d])) cs)) : oAppend (.opq (.ref p)) [d] cs P := by
  unfold oAppend; simp only [hl]; exact ⟨hz, h⟩
theorem r_isM (hl : look p cs = some (.lst xs)) {R : Prop} (h : R) : isL (.opq (.ref p)) cs ∧ R := ⟨by unfold isL; simp only [hl], h⟩
theorem r_isL {R : Prop} (h : R) : isL (.lst xs) cs ∧ R := ⟨trivial, h⟩
theorem r_count (h1 : plL 20 xs = true) (h2 : plD 20 d = true) (h : P (.int (cntD xs d : Int)) cs) : oCount (.lst xs) [d] cs P := ⟨h1, h2, h⟩
theorem r_seqI {R : List D → Cs → Prop} (h : we ρ cs (fun d cs1 => match d with | .lst xs => R xs cs1 | _ => False) Z) : iSeq we ρ cs R Z := h
theorem r_tupI {R : List D → Cs → Prop} (h : we ρ cs (fun d cs1 => match d with | .tup xs => R xs cs1 | _ => False) Z) : iTupD we ρ cs R Z := h
theorem r_rg1 {R : List D → Cs → Prop} (h : we ρ cs (fun d cs1 => match d with | .int j => (-(2 ^ 62) ≤ j ∧ j < 2 ^ 62) ∧ R (rngD 0 j.toNat) cs1 | _ => False) Z) : iRg1 (wCons we wNil) ρ cs R Z := by
  unfold iRg1 wCons wNil
  have e : (fun (d : D) (cs1 : Cs) => (match [d] with | [D.int j] => (-(2 ^ 62) ≤ j ∧ j < 2 ^ 62) ∧ R (rngD 0 j.toNat) cs1 | _ => False)) = fun d cs1 => match d with | .int j => (-(2 ^ 62) ≤ j ∧ j < 2 ^ 62) ∧ R (rngD 0 j.toNat) cs1 | _ => False := by
    funext d cs1
    cases d <;> rfl
  rw [← e] at h
  exact h
theorem divOk {b : Int} (h : 0 < b) (h2 : b < 2 ^ 60) : 0 < b ∧ b.natAbs.log2 < 9000 := by
  refine ⟨h, ?_⟩
  have e : b.natAbs < 2 ^ 60 := by omega
  exact Nat.lt_of_lt_of_le (PySem.Flt.log2_lt_of (by decide) e) (by decide)
theorem put_look {p : Addr} {m : MO} : ∀ {cs : Cs}, look p cs = some m → put p m cs = cs
  | [], h => by cases h
  | (a, x) :: r, h => by
    unfold look at h
    unfold put
    split at h
    · rename_i e
      cases h
      rw [if_pos e]
    · rename_i e
      rw [if_neg e, put_look h]
theorem decT {p : Prop} [Decidable p] (h : decide p = true) : p := of_decide_eq_true h
theorem decF {p : Prop} [Decidable p] (h : decide p = false) : ¬ p := of_decide_eq_false h
theorem ndecT {p : Prop} [Decidable p] (h : (!decide p) = true) : ¬ p := by simpa using h
theorem ndecF {p : Prop} [Decidable p] (h : (!decide p) = false) : p := by simpa using h
end
end DL
namespace DL
open PySem PySem.Spec PyProof.Rows L2
section
variable {X : Cx} {W : WX} {K : PySem.W.Frag} {σ : L2.St} {H : Hp} {pos : Pos} {a b e : Expr} {es : List Expr} {wa wb we : DL.WE} {w : WA}
theorem d_ty {x : Str} {n : String} (hg : Gl X x) (hm : X.mg x = none) (hv : bootBuiltins x = some (.type n)) (hn : x ≠ "__name__" := by decide) (hd : (x == ("__debug__" : Str)) = false := by decide) : DE X W (.Name x pos) (wC (.opq (.ty n))) :=
  d_of (pe_bltn hg hm hv (v := .ty n) rfl hn hd) fun _ => .opq _
def tyS : D → Option String
  | .non => some "NoneType"
  | .bl _ => some "bool"
  | .int _ => some "int"
  | .str _ => some "str"
  | .tup _ => some "tuple"
  | .lst _ => some "list"
  | .dic _ => some "dict"
  | _ => none
def isT (t n : String) : Bool := t == n || (t == "bool" && n == "int")
theorem isT_kit : (["NoneType", "bool", "int", "str", "tuple", "list", "dict"].all fun t => ["bool", "int", "str", "tuple", "list", "dict"].all fun n => kitB t n == some (isT t n)) = true := by decide +kernel
theorem isT_ok {d : D} {t n : String} (h : tyS d = some t) (hn : (["bool", "int", "str", "tuple", "list", "dict"].contains n) = true) : PySem.W.kitOne K (.type t) (.type n) = some (isT t n) := by
  refine kit_ty ?_
  have h1 : t ∈ ["NoneType", "bool", "int", "str", "tuple", "list", "dict"] := by
    cases d <;> simp [tyS] at h <;> subst h <;> decide
  have h2 : n ∈ ["bool", "int", "str", "tuple", "list", "dict"] := by simpa using hn
  exact eq_of_beq (List.all_eq_true.mp (List.all_eq_true.mp isT_kit t h1) n h2)
theorem tyX_of {F : Hp} {cs : Cs} {x : V} {d : D} {t : String} (r : Rep K (pur F cs H) x d) (h : tyS d = some t) : TyX K H x (.type t) := by
  cases r with
  | non => simp [tyS] at h; subst h; exact .base .non
  | bl b => simp [tyS] at h; subst h; exact .base (.bl b)
  | int i => simp [tyS] at h; subst h; exact .base (.int i)
  | str x => simp [tyS] at h; subst h; exact .base (.str x)
  | opq v => simp [tyS] at h
  | lst h1 r =>
    simp [tyS] at h; subst h
    rcases ex_l pur_le h1 with (q | ⟨o, q⟩) | ⟨o, its, n, q, c, _⟩
    · exact .base (.lst q)
    · exact .base (.frz q)
    · exact .kList q c
  | tup h1 r =>
    simp [tyS] at h; subst h
    rcases ex_t pur_le h1 with (q | ⟨o, q⟩) | ⟨o, its, n, q, c, _⟩
    · exact .base (.tup q)
    · exact .fTuple q
    · exact .kTuple q c
  | dic h1 r =>
    simp [tyS] at h; subst h
    exact .fDict (pur_le _ _ h1)
  | dct h1 r => simp [tyS] at h
  | ins h1 h2 r => simp [tyS] at h
  | xcp h1 r => simp [tyS] at h
def isiD (d : D) (n : String) : Option Bool := (tyS d).bind fun t => if (["bool", "int", "str", "tuple", "list", "dict"].contains n) = true then some (isT t n) else none
def oIsi : DOn := fun ds cs P => match ds with
  | [d, .opq (.ty n)] => (match isiD d n with
    | some k => P (.bl k) cs
    | none => False)
  | _ => False
theorem isiD_inv {d : D} {n : String} {k : Bool} (h : isiD d n = some k) : ∃ t, tyS d = some t ∧ (["bool", "int", "str", "tuple", "list", "dict"].contains n) = true ∧ k = isT t n := by
  unfold isiD at h
  cases e : tyS d with
  | none => rw [e] at h; cases h
  | some t =>
    rw [e, Option.bind_some] at h
    split at h
    · rename_i hn
      cases h
      exact ⟨t, rfl, hn, rfl⟩
    · cases h
theorem adq_isi : AdqN K (rIsi K) oIsi := fun F cs H xs ds P Q s r ho pe => by
  unfold oIsi at ho
  split at ho
  · split at ho
    · rename_i k e
      obtain ⟨t, h1, h2, h3⟩ := isiD_inv e
      cases r with
      | cons r1 r2 =>
        cases r2 with
        | cons r2 r3 =>
          cases r3
          cases r2
          exact ⟨_, _, _, _, k, rfl, .ty _, tyX_of r1 h1, by rw [h3]; exact isT_ok h1 h2, pe H cs _ _ s (.bl _) ho⟩
    · exact ho.elim
  · exact ho.elim
/-- isinstance(x, (T1, T2, ..)) -/
def tyNames : List D → Option (List String)
  | [] => some []
  | .opq (.ty n) :: r => if (["bool", "int", "str", "tuple", "list", "dict"].contains n) = true then (tyNames r).map (n :: ·) else none
  | _ => none
def oIsiT : DOn := fun ds cs P => match ds with
  | [d, .tup ts] => (match tyS d, tyNames ts with
    | some t, some ns => P (.bl (ns.any fun n => isT t n)) cs
    | _, _ => False)
  | _ => False
theorem isiAny_ok {G : Hp} {d : D} {t : String} (ht : tyS d = some t) : ∀ {ts : List D} {vs : List V} {ns : List String}, RepL K G vs ts → tyNames ts = some ns → Paired ClsV vs (ns.map Value.type) ∧ PySem.W.kitAny K (.type t) (ns.map Value.type) = some (ns.any fun n => isT t n)
  | [], _, ns, .nil, h => by
      have e : some [] = some ns := h
      cases e; exact ⟨.nil, rfl⟩
  | c :: r, _, ns, .cons r1 r2, h => by
    cases c <;> try (simp [tyNames] at h; done)
    rename_i v
    cases v <;> try (simp [tyNames] at h; done)
    rename_i n
    cases r1
    unfold tyNames at h
    split at h
    · rename_i hn
      cases e : tyNames r with
      | none => rw [e] at h; cases h
      | some ms =>
        rw [e] at h
        cases h
        obtain ⟨p1, p2⟩ := isiAny_ok ht r2 e
        refine ⟨.cons (.ty n) p1, ?_⟩
        rw [List.map_cons, List.any_cons]
        exact kitAny_cons (b := isT t n) (isT_ok ht hn) (fun z => by rw [p2, z, Bool.false_or]) (fun z => by rw [z, Bool.true_or])
    · cases h
theorem adq_isiT : AdqN K (fun xs H Q => ∃ (x : V) (tp : Addr) (cs : List V) (t : Value) (us : List Value) (b : Bool), xs = [x, .ref tp] ∧ SqT K H tp cs ∧ Paired ClsV cs us ∧ TyX K H x t ∧ PySem.W.kitAny K t us = some b ∧ Q (.bl b) H) oIsiT := fun F cs H xs ds P Q s r ho pe => by
  unfold oIsiT at ho
  split at ho
  · split at ho
    · rename_i t ns e1 e2
      cases r with
      | cons r1 r2 =>
        cases r2 with
        | cons r2 r3 =>
          cases r3
          cases r2 with
          | tup h r =>
            obtain ⟨p1, p2⟩ := isiAny_ok e1 r e2
            exact ⟨_, _, _, _, _, _, rfl, ex_t pur_le h, p1, tyX_of r1 e1, p2, pe H cs _ _ s (.bl _) ho⟩
    · exact ho.elim
  · exact ho.elim
theorem call_isiD : CallR X (.builtin "isinstance") (fun xs H Q => ∃ (x : V) (tp : Addr) (cs : List V) (t : Value) (us : List Value) (b : Bool), xs = [x, .ref tp] ∧ SqT X.K H tp cs ∧ Paired ClsV cs us ∧ TyX X.K H x t ∧ PySem.W.kitAny X.K t us = some b ∧ Q (.bl b) H) := by
  intro pins s σ H xs us Q I r h
  obtain ⟨x, tp, cs, t, ws, b, rfl, hT, k, ty, e, q⟩ := h
  obtain ⟨u1, u2, rfl, r1, r2⟩ := vals2 r
  cases (show u2 = Value.ref tp from r2)
  obtain ⟨P, Z, p, hx⟩ := kit_of I r1 ty
  obtain ⟨its, rv, ⟨o, h1, h2, n, h3⟩, _⟩ := I.tuple hT
  have e3 := ClsV.all k rv
  subst e3
  obtain ⟨oc, od, dt, sl⟩ := o
  simp only at h2 h3
  subst h2 h3
  exact PySem.W.kia_tup Z I.kIn p h1 e hx fun tk => ⟨.bl b, H, I.tok tk, rfl, q⟩
def blsOf : List D → Option (List Bool)
  | [] => some []
  | .bl i :: r => (blsOf r).map (i :: ·)
  | _ => none
theorem blsOf_map (ns : List Bool) : blsOf (ns.map D.bl) = some ns := by
  induction ns with
  | nil => rfl
  | cons n ns ih => rw [List.map_cons]; unfold blsOf; rw [ih]; rfl
theorem blsOf_inv : ∀ {ds : List D} {ns : List Bool}, blsOf ds = some ns → ds = ns.map D.bl
  | [], ns, h => by cases h; rfl
  | d :: r, ns, h => by
    cases d <;> try (simp [blsOf] at h; done)
    unfold blsOf at h
    cases e : blsOf r with
    | none => rw [e] at h; cases h
    | some ms => rw [e] at h; cases h; rw [blsOf_inv e]; rfl
def oAll : DOn := fun ds cs P => match ds with
  | [.lst xs] => (match blsOf xs with
    | some bs => P (.bl (bs.all id)) cs
    | none => False)
  | _ => False
theorem adq_all : AdqN K (rAll K) oAll := fun F cs H xs ds P Q s r ho pe => by
  unfold oAll at ho
  split at ho
  · split at ho
    · rename_i ns e
      have e1 := blsOf_inv e
      cases r with
      | cons r1 r2 =>
        cases r2
        cases r1 with
        | lst h r =>
          rw [e1] at r
          have e2 := RepL.bls ns r
          subst e2
          exact ⟨_, ns, rfl, ex_l pur_le h, pe H cs _ _ s (.bl _) ho⟩
    · exact ho.elim
  · exact ho.elim
def oTuple : DOn := fun ds cs P => match ds with
  | [.lst xs] => P (.tup xs) cs
  | [.tup xs] => P (.tup xs) cs
  | _ => False
theorem adq_tuple : AdqN K (fun xs H Q => ∃ p ys, xs = [.ref p] ∧ ((SqL K H p ys ∧ ∀ l, H l = none → Q (.ref l) (upd H l (.tup ys))) ∨ (SqT K H p ys ∧ Q (.ref p) H))) oTuple := fun F cs H xs ds P Q s r ho pe => by
  unfold oTuple at ho
  split at ho
  · cases r with
    | cons r1 r2 =>
      cases r2
      cases r1 with
      | lst h r =>
        refine ⟨_, _, rfl, .inl ⟨ex_l pur_le h, fun l hl => ?_⟩⟩
        obtain ⟨s2, e2⟩ := s.new (o := .tup _) hl
        exact pe _ cs _ _ s2 (.tup (SqT.of e2) (r.mono s2.gr)) ho
  · cases r with
    | cons r1 r2 =>
      cases r2
      cases r1 with
      | tup h r => exact ⟨_, _, rfl, .inr ⟨ex_t pur_le h, pe H cs _ _ s (.tup h r) ho⟩⟩
  · exact ho.elim
def oSlT : D → Option Int → Option Int → Cs → DP → Prop := fun x lo hi cs P => match x with
  | .tup xs => P (.tup (cutD xs lo hi)) cs
  | _ => False
theorem cutD_whole {xs : List D} {lo hi : Option Int} (h1 : HT.sIx xs.length 0 lo = 0) (h2 : HT.sIx xs.length xs.length hi = xs.length) : DL.cutD xs lo hi = xs := by
  unfold DL.cutD
  rw [h1, h2, List.drop_zero]
  exact List.take_of_length_le (by omega)
theorem adq_slT : AdqS K (rSlA K) oSlT := fun F cs H x dx lo hi P Q s rx ho pe => by
  unfold oSlT at ho
  split at ho
  · cases rx with
    | tup h r =>
      refine ⟨_, _, rfl, ex_t pur_le h, fun hw => ?_, fun _ p hp => ?_⟩
      · rw [r.length] at hw
        rw [cutD_whole hw.1 hw.2] at ho
        exact pe H cs _ _ s (.tup h r) ho
      · obtain ⟨s2, e2⟩ := s.new (o := .tup (cutV _ lo hi)) hp
        exact pe _ cs _ _ s2 (.tup (SqT.of e2) ((r.cut lo hi).mono s2.gr)) ho
  · exact ho.elim
def oCatT : DO2 := fun x y cs P => match x, y with
  | .tup xs, .tup ys => xs.length + ys.length ≤ 100000 ∧ P (.tup (xs ++ ys)) cs
  | _, _ => False
theorem adq_catT : Adq K (rCatA K) oCatT := fun F cs H x y dx dy P Q s rx ry ho pe => by
  unfold oCatT at ho
  split at ho
  · obtain ⟨hz, ho⟩ := ho
    cases rx with
    | @tup _ vs _ hx r1 =>
      cases ry with
      | @tup _ us _ hy r2 =>
        refine ⟨_, _, vs, us, rfl, rfl, ex_t pur_le hx, ex_t pur_le hy, by rw [r1.length, r2.length]; exact Nat.le_trans hz (by decide), fun e => ?_, fun _ e => ?_, fun _ _ p hp => ?_⟩
        · subst e
          cases r1
          exact pe H cs _ _ s (.tup hy r2) ho
        · subst e
          cases r2
          rw [List.append_nil] at ho
          exact pe H cs _ _ s (.tup hx r1) ho
        · obtain ⟨s2, e2⟩ := s.new (o := .tup (vs ++ us)) hp
          exact pe _ cs _ _ s2 (.tup (SqT.of e2) ((r1.append r2).mono s2.gr)) ho
  · exact ho.elim
theorem d_catT (ha : DE X W a wa) (hb : DE X W b wb) : DE X W (.BinOp a .Add b pos) (wOp oCatT wa wb) := d_op op_catA adq_catT ha hb
theorem yi_zipL {G : Hp} {p q : Addr} {xs ys : List V} {ds es : List D} (h1 : SqL K G p xs) (r1 : RepL K G xs ds) (h2 : SqL K G q ys) (r2 : RepL K G ys es) : YI K (Itz K p q) G (List.zipWith (fun d e => D.tup [d, e]) ds es) where
  go := fun i d e F cs H s => by
    rw [List.getElem?_zipWith] at e
    cases e1 : ds[i]? with
    | none => rw [e1] at e; cases e
    | some x => cases e2 : es[i]? with
      | none => rw [e1, e2] at e; cases e
      | some y =>
        obtain ⟨v, a1, _⟩ := r1.get e1
        obtain ⟨u, a2, _⟩ := r2.get e2
        exact ⟨xs, ys, v, u, ex_l (s.gr.trans pur_le) h1, ex_l (s.gr.trans pur_le) h2, a1, a2⟩
  yld := fun i d e F cs H x H' s hy => by
    obtain ⟨T, v, u, rfl, hT, rfl, k1, k2⟩ := hy
    rw [List.getElem?_zipWith] at e
    cases e1 : ds[i]? with
    | none => rw [e1] at e; cases e
    | some dx => cases e2 : es[i]? with
      | none => rw [e1, e2] at e; cases e
      | some dy =>
        rw [e1, e2] at e
        cases e
        obtain ⟨v', a1, b1⟩ := r1.get e1
        obtain ⟨u', a2, b2⟩ := r2.get e2
        have c1 := k1 xs (ex_l (s.gr.trans pur_le) h1)
        have c2 := k2 ys (ex_l (s.gr.trans pur_le) h2)
        rw [a1] at c1; rw [a2] at c2
        obtain rfl := Option.some.inj c1
        obtain rfl := Option.some.inj c2
        obtain ⟨s2, e3⟩ := s.new (o := .tup [_, _]) hT
        exact ⟨s2, .tup (SqT.of e3) (.cons (b1.mono (s.gr.trans s2.gr)) (.cons (b2.mono (s.gr.trans s2.gr)) .nil))⟩
  stop := fun F cs H s => by
    refine ⟨xs, ys, ex_l (s.gr.trans pur_le) h1, ex_l (s.gr.trans pur_le) h2, ?_⟩
    rw [List.length_zipWith, r1.length, r2.length]; omega
theorem yi_zipT {G : Hp} {p q : Addr} {xs ys : List V} {ds es : List D} (h1 : SqT K G p xs) (r1 : RepL K G xs ds) (h2 : SqT K G q ys) (r2 : RepL K G ys es) : YI K (RZ.ItzT K p q) G (List.zipWith (fun d e => D.tup [d, e]) ds es) where
  go := fun i d e F cs H s => by
    rw [List.getElem?_zipWith] at e
    cases e1 : ds[i]? with
    | none => rw [e1] at e; cases e
    | some x => cases e2 : es[i]? with
      | none => rw [e1, e2] at e; cases e
      | some y =>
        obtain ⟨v, a1, _⟩ := r1.get e1
        obtain ⟨u, a2, _⟩ := r2.get e2
        exact ⟨xs, ys, v, u, ex_t (s.gr.trans pur_le) h1, ex_t (s.gr.trans pur_le) h2, a1, a2⟩
  yld := fun i d e F cs H x H' s hy => by
    obtain ⟨T, v, u, rfl, hT, rfl, k1, k2⟩ := hy
    rw [List.getElem?_zipWith] at e
    cases e1 : ds[i]? with
    | none => rw [e1] at e; cases e
    | some dx => cases e2 : es[i]? with
      | none => rw [e1, e2] at e; cases e
      | some dy =>
        rw [e1, e2] at e
        cases e
        obtain ⟨v', a1, b1⟩ := r1.get e1
        obtain ⟨u', a2, b2⟩ := r2.get e2
        have c1 := k1 xs (ex_t (s.gr.trans pur_le) h1)
        have c2 := k2 ys (ex_t (s.gr.trans pur_le) h2)
        rw [a1] at c1; rw [a2] at c2
        obtain rfl := Option.some.inj c1
        obtain rfl := Option.some.inj c2
        obtain ⟨s2, e3⟩ := s.new (o := .tup [_, _]) hT
        exact ⟨s2, .tup (SqT.of e3) (.cons (b1.mono (s.gr.trans s2.gr)) (.cons (b2.mono (s.gr.trans s2.gr)) .nil))⟩
  stop := fun F cs H s => by
    refine ⟨xs, ys, ex_t (s.gr.trans pur_le) h1, ex_t (s.gr.trans pur_le) h2, ?_⟩
    rw [List.length_zipWith, r1.length, r2.length]; omega
def iZp (w : WA) : WI := fun ρ cs P Z => w ρ cs (fun ds cs1 => match ds with
  | [.lst xs, .lst ys] => P (List.zipWith (fun d e => D.tup [d, e]) xs ys) cs1
  | [.tup xs, .tup ys] => P (List.zipWith (fun d e => D.tup [d, e]) xs ys) cs1
  | _ => False) Z
theorem zp_inv {ds : List D} {g : List D → List D → Prop} (h : (match ds with | [D.lst xs, D.lst ys] => g xs ys | [D.tup xs, D.tup ys] => g xs ys | _ => False)) : ∃ xs ys, (ds = [.lst xs, .lst ys] ∨ ds = [.tup xs, .tup ys]) ∧ g xs ys := by
  match ds, h with
  | [D.lst xs, D.lst ys], h => exact ⟨xs, ys, .inl rfl, h⟩
  | [D.tup xs, D.tup ys], h => exact ⟨xs, ys, .inr rfl, h⟩
theorem di_zip {e2 : Expr} {p tpos : Pos} {elts : List Expr} {kk : Nat} (hg : Gl X "zip") (hm : X.mg "zip" = none) (ha : DA X W [e, e2] w)
    (hs : starEach [e, e2] X.env = (false, eval e X.env) :: starEach [e2] X.env := by rfl) (hpl : (backTo pos (starEach [e2] X.env)).any (·.1) = false := by rfl) :
    DI X W (.Tuple elts kk tpos) (.Call (.Name "zip" p) [e, e2] [] pos) (iZp w) := PI.imp (RZ.pi_zipA hg hm ha hs hpl) fun σ H R hq => by
  obtain ⟨F, cs, ρ, P, Z, s, re, hw, pe, px⟩ := hq
  refine ⟨F, cs, ρ, _, Z, s, re, hw, fun H1 cs1 vs ds s1 r1 l1 h1 => ?_, px⟩
  obtain ⟨xs, ys, e1, h⟩ := zp_inv h1
  rcases e1 with e1 | e1
  · subst e1
    cases r1 with
    | cons r1 r2 =>
      cases r2 with
      | cons r2 r3 =>
        cases r3
        cases r1 with
        | lst a1 b1 =>
          cases r2 with
          | lst a2 b2 => exact ⟨_, _, _, _, rfl, .inl ⟨ex_l pur_le a1, ex_l pur_le a2, pe H1 cs1 _ _ s1 (yi_zipL a1 b1 a2 b2) h⟩⟩
  · subst e1
    cases r1 with
    | cons r1 r2 =>
      cases r2 with
      | cons r2 r3 =>
        cases r3
        cases r1 with
        | tup a1 b1 =>
          cases r2 with
          | tup a2 b2 => exact ⟨_, _, _, _, rfl, .inr ⟨ex_t pur_le a1, ex_t pur_le a2, pe H1 cs1 _ _ s1 (yi_zipT a1 b1 a2 b2) h⟩⟩
end
abbrev W0 : WX := fun _ _ _ _ => False
abbrev Z0 : XZ := fun _ _ => False
section
variable {X : Cx} {W : WX} {K : PySem.W.Frag} {σ : L2.St} {H : Hp}
def compW (g : WG) (wt : WT) (we : DL.WE) : List D → DL.Env → Cs → List D → (List D → Cs → Prop) → Prop
  | [], _, cs, acc, P => P acc cs
  | d :: r, ρ, cs, acc, P => g d ρ fun ρ1 => wt ρ1 cs (fun k cs1 => (k = true → we ρ1 cs1 (fun y cs2 => compW g wt we r ρ cs2 (acc ++ [y]) P) Z0) ∧ (k = false → compW g wt we r ρ cs1 acc P)) Z0
def wipeD (ρ : DL.Env) : List Nat → DL.Env
  | [] => ρ
  | v :: vs => (wipeD ρ vs).set v none
def wComp (wi : WI) (g : WG) (wt : WT) (we : DL.WE) (vs : List Nat) : DL.WE := fun ρ cs P Z => wi ρ cs (fun xs cs1 => xs.length ≤ 100000 ∧ compW g wt we xs (wipeD ρ vs) cs1 [] (fun ds cs2 => P (.lst ds) cs2)) Z
def wYes : WT := fun _ cs P _ => P true cs
theorem yes_ok {Q : Bool → Hp → Prop} (h : lT K W wYes σ H Q) : tYes σ H Q := by
  obtain ⟨F, cs, ρ, P, Z, s, re, hw, pe, px⟩ := h
  exact pe H cs true s hw
theorem PTs.imp {X : Cx} {ifs : List Expr} {t t' : TT} (h : PTs X ifs t) (i : ∀ σ H Q, t' σ H Q → t σ H Q) : PTs X ifs t' := ⟨fun pins s σ H Q I q => h.run pins s σ H Q I (i σ H Q q)⟩
theorem dts_nil : PTs X [] (lT X.K W wYes) := PTs.imp pts_nil fun _ _ _ h => yes_ok h
theorem dts_one {c : Expr} {wt : WT} (h : DT X W c wt) : PTs X [c] (lT X.K W wt) := pts_one h
theorem RepE.setN {G : Hp} {σ : L2.St} {ρ : DL.Env} (r : RepE K G σ ρ) : ∀ i, RepE K G (σ.set i none) (ρ.set i none) := fun i => by
  induction r generalizing i with
  | nil => exact .nil
  | cons h r ih => cases i with
    | zero => exact .cons .skip r
    | succ i => exact .cons h (ih i)
theorem RepE.wipe {G : Hp} {σ : L2.St} {ρ : DL.Env} (r : RepE K G σ ρ) : ∀ vs, RepE K G (L2.wipe σ vs) (wipeD ρ vs)
  | [] => r
  | v :: vs => (RepE.wipe r vs).setN v
theorem set_none_comm (σ : L2.St) (i j : Nat) (v : Option V) (h : i ≠ j) : (σ.set i v).set j none = (σ.set j none).set i v := (List.set_comm v none h)
theorem wipe_set {σ : L2.St} {i : Nat} {v : Option V} : ∀ {vs : List Nat}, i ∈ vs → L2.wipe (σ.set i v) vs = L2.wipe σ vs
  | [], h => by cases h
  | a :: vs, h => by
    unfold L2.wipe
    by_cases hi : i ∈ vs
    · rw [wipe_set hi]
    · have e : i = a := by
        rcases List.mem_cons.mp h with z | z
        · exact z
        · exact absurd z hi
      subst e
      have key : ∀ (vs : List Nat), i ∉ vs → L2.wipe (σ.set i v) vs = (L2.wipe σ vs).set i v := by
        intro vs
        induction vs with
        | nil => intro _; rfl
        | cons b bs ih =>
          intro hb
          have h1 : i ≠ b := fun z => hb (z ▸ List.mem_cons_self ..)
          unfold L2.wipe
          rw [ih fun z => hb (List.mem_cons_of_mem _ z), set_none_comm _ _ _ _ h1]
      rw [key vs hi, List.set_set]
theorem wipe_wipe {σ : L2.St} : ∀ {vs : List Nat}, L2.wipe (L2.wipe σ vs) vs = L2.wipe σ vs := by
  intro vs
  have key : ∀ (us : List Nat), (∀ u ∈ us, u ∈ vs) → L2.wipe (L2.wipe σ us) vs = L2.wipe σ vs := by
    intro us
    induction us with
    | nil => intro _; rfl
    | cons a us ih =>
      intro h
      have e : L2.wipe σ (a :: us) = (L2.wipe σ us).set a none := rfl
      rw [e, wipe_set (h a (List.mem_cons_self ..)), ih fun u hu => h u (List.mem_cons_of_mem _ hu)]
  exact key vs fun _ h => h
/-- a thing of ours is put aside -/
theorem ft_upd {F : Hp} {p : Addr} {o : HO} (h : ∀ a xs, F a ≠ some (.tup xs)) (ho : ∀ xs, o ≠ .tup xs) : ∀ a xs, upd F p o a ≠ some (.tup xs) := fun a xs e => by
  by_cases hb : a = p
  · rw [hb, upd_same] at e; exact ho xs (Option.some.inj e)
  · rw [upd_ne hb] at e; exact h a xs e
theorem ft_back {F : Hp} {p : Addr} {o : HO} (h : ∀ a xs, upd F p o a ≠ some (.tup xs)) (hF : F p = none) : ∀ a xs, F a ≠ some (.tup xs) := fun a xs e => by
  refine h a xs ?_
  rw [upd_ne (fun z => by rw [z, hF] at e; cases e)]; exact e
theorem Sta.aside {F G0 : Hp} {cs : Cs} {p : Addr} {o : HO} (s : Sta K F G0 cs H) (h : H p = none) (ho : ∀ xs, o ≠ .tup xs := by intro _ z; cases z) : Sta K (upd F p o) (pur F cs H) cs (upd H p o) := by
  obtain ⟨hF, hc⟩ := s.notin h
  have g : Ex (pur F cs H) (pur (upd F p o) cs (upd H p o)) := fun b u e => by
    obtain ⟨e1, e2, e3⟩ := pur_of e
    have hb : b ≠ p := ne_of_none e1 h
    rw [pur_at (by rw [upd_ne hb]; exact e2) e3, upd_ne hb]; exact e1
  refine ⟨fun b u e => ?_, g, s.nd, fun a ha => ?_, fun a m hm => ?_, ft_upd s.ft ho⟩
  · by_cases hb : b = p
    · subst hb; rw [upd_same] at e ⊢; exact e
    · rw [upd_ne hb] at e ⊢; exact s.fr b u e
  · rw [upd_ne (show a ≠ p from fun z => hc (by rw [← z]; exact ha))]; exact s.ap a ha
  · obtain ⟨u, hu, q⟩ := s.ow a m hm
    exact ⟨u, by rw [upd_ne (ne_of_none hu h)]; exact hu, q.mono g⟩
theorem Sta.turn {F G0 : Hp} {cs : Cs} {p : Addr} {o o' : HO} (s : Sta K (upd F p o) G0 cs H) (hF : F p = none) (ho : ∀ xs, o' ≠ .tup xs := by intro _ z; cases z) : Sta K (upd F p o') G0 cs (upd H p o') ∧ pur (upd F p o') cs (upd H p o') = pur (upd F p o) cs H := by
  have e : pur (upd F p o') cs (upd H p o') = pur (upd F p o) cs H := by
    funext b
    unfold pur
    by_cases hb : b = p
    · subst hb
      rw [if_pos (.inl (by rw [upd_same]; rfl)), if_pos (.inl (by rw [upd_same]; rfl))]
    · rw [upd_ne hb, upd_ne hb, upd_ne hb]
  refine ⟨⟨fun b u h => ?_, by rw [e]; exact s.gr, s.nd, fun a ha => ?_, fun a m hm => ?_, ft_upd (ft_back s.ft hF) ho⟩, e⟩
  · by_cases hb : b = p
    · subst hb; rw [upd_same] at h ⊢; exact h
    · rw [upd_ne hb] at h ⊢
      exact s.fr b u (by rw [upd_ne hb]; exact h)
  · have := s.ap a ha
    by_cases hb : a = p
    · subst hb; rw [upd_same] at this; cases this
    · rw [upd_ne hb] at this ⊢; exact this
  · obtain ⟨u, hu, q⟩ := s.ow a m hm
    have ha := s.ap a (List.mem_map.mpr ⟨(a, m), hm, rfl⟩)
    have hb : a ≠ p := fun z => by subst z; rw [upd_same] at ha; cases ha
    exact ⟨u, by rw [upd_ne hb]; exact hu, by rw [e]; exact q⟩
/-- .. and is data again -/
theorem Sta.back {F G0 : Hp} {cs : Cs} {p : Addr} {o : HO} (s : Sta K (upd F p o) G0 cs H) (hF : F p = none) : Sta K F G0 cs H ∧ Ex (pur (upd F p o) cs H) (pur F cs H) ∧ pur F cs H p = some o := by
  have hc : p ∉ adr cs := fun z => by
    have := s.ap p z
    rw [upd_same] at this; cases this
  have g : Ex (pur (upd F p o) cs H) (pur F cs H) := fun b u e => by
    obtain ⟨e1, e2, e3⟩ := pur_of e
    by_cases hb : b = p
    · subst hb; rw [upd_same] at e2; cases e2
    · rw [upd_ne hb] at e2
      rw [pur_at e2 e3]; exact e1
  refine ⟨⟨fun b u e => ?_, s.gr.trans g, s.nd, fun a ha => ?_, fun a m hm => ?_, ft_back s.ft hF⟩, g, ?_⟩
  · refine s.fr b u ?_
    rw [upd_ne (fun z => by rw [z, hF] at e; cases e)]; exact e
  · have := s.ap a ha
    by_cases hb : a = p
    · exact absurd (hb ▸ ha) hc
    · rw [upd_ne hb] at this; exact this
  · obtain ⟨u, hu, q⟩ := s.ow a m hm
    exact ⟨u, hu, q.mono g⟩
  · rw [pur_at hF hc]
    exact s.fr p o upd_same
/-- how a target of a comprehension binds: its slots alone -/
def GOk (K : PySem.W.Frag) (g : TG) (gd : WG) (vs : List Nat) : Prop := ∀ F cs H σ ρ v d k (Q : L2.St → Hp → Prop), Sta K F (pur F cs H) cs H → RepE K (pur F cs H) σ ρ → Rep K (pur F cs H) v d → L2.wipe σ vs = σ → gd d ρ k →
  (∀ σ' ρ', L2.wipe σ' vs = σ → RepE K (pur F cs H) σ' ρ' → k ρ' → Q σ' H) → g v σ H Q
theorem gok_name {i : Nat} {vs : List Nat} (h : i ∈ vs) : GOk K (gName i) (gN i) vs := fun F cs H σ ρ v d k Q s re r hw hk q => by
  refine q _ _ ?_ (re.set r i) hk
  rw [wipe_set h, hw]
theorem gok_two {i j : Nat} {vs : List Nat} (hi : i ∈ vs) (hj : j ∈ vs) : GOk K (gTup K 2 (gCons (gName i) (gCons (gName j) gNil))) (gT 2 (gCn (gN i) (gCn (gN j) gNl))) vs := fun F cs H σ ρ v d k Q s re r hw hk q => by
  cases d <;> try exact hk.elim
  rename_i ds
  obtain ⟨hl, hk⟩ := hk
  cases r with
  | tup h r =>
    obtain ⟨d1, d2, rfl⟩ : ∃ d1 d2, ds = [d1, d2] := by
      cases ds with
      | nil => cases hl
      | cons d1 ds => cases ds with
        | nil => cases hl
        | cons d2 ds => cases ds with
          | nil => exact ⟨d1, d2, rfl⟩
          | cons _ _ => simp at hl
    cases r with
    | cons r1 r =>
      cases r with
      | cons r2 r =>
        cases r
        exact ⟨_, _, rfl, ex_t pur_le h, rfl, _, _, rfl, _, _, rfl, rfl, q _ _ (by rw [wipe_set hj, wipe_set hi, hw]) ((re.set r1 i).set r2 j) hk⟩
theorem lc_ok {wi : WI} {g : TG} {gd : WG} {wt : WT} {we : DL.WE} {vs : List Nat} (gk : GOk K g gd vs) {Q : VK} : lE K W (wComp wi gd wt we vs) σ H Q → tLc (lI K W wi) g (lT K W0 wt) (lE K W0 we) vs σ H Q := by
  rintro ⟨F, cs, ρ, P, Z, s, re, hw, pe, px⟩
  refine ⟨F, cs, ρ, _, Z, s, re, hw, fun H1 cs1 J xs s1 yi h1 => ?_, px⟩
  intro D hD
  obtain ⟨hlen, h1⟩ := h1
  have hFD : F D = none := s1.fr.back hD
  have reW : RepE K (pur F cs1 H1) (L2.wipe σ vs) (wipeD ρ vs) := (re.mono s1.gr).wipe vs
  refine ⟨fun i m H' => i ≤ xs.length ∧ m = xs.length - i ∧ ∃ cs' acc vacc, Sta K (upd F D (.lst vacc)) (pur F cs1 H1) cs' H' ∧ RepL K (pur (upd F D (.lst vacc)) cs' H') vacc acc ∧ acc.length ≤ i ∧ compW gd wt we (xs.drop i) (wipeD ρ vs) cs' acc (fun ds cs2 => P (.lst ds) cs2),
    ⟨xs.length, Nat.zero_le _, rfl, cs1, [], [], s1.aside hD, .nil, Nat.le_refl _, h1⟩, ?_⟩
  rintro i m H2 ⟨hi, rfl, cs2, acc, vacc, s2, ra, hla, h2⟩
  cases e : xs.drop i with
  | nil =>
    have hl : xs.length ≤ i := by
      have z := congrArg List.length e
      rw [List.length_drop] at z
      have z' : xs.length - i = 0 := z
      omega
    have hie : i = xs.length := by omega
    rw [e] at h2
    obtain ⟨s3, g3, e3⟩ := s2.back hFD
    refine .inl ⟨by rw [hie]; exact yi.stop _ cs2 H2 s2, pe H2 cs2 _ _ (s3.from_ s1.gr) (.lst (SqL.of e3) (ra.mono g3)) h2⟩
  | cons d r =>
    obtain ⟨e1, e2⟩ := drop_cons e
    have hlt : i < xs.length := (List.getElem?_eq_some_iff.mp e1).1
    rw [e] at h2
    refine .inr ⟨yi.go i d e1 _ cs2 H2 s2, fun H' => ∃ cs' acc vacc, Sta K (upd F D (.lst vacc)) (pur F cs1 H1) cs' H' ∧ RepL K (pur (upd F D (.lst vacc)) cs' H') vacc acc ∧ acc.length ≤ i + 1 ∧ compW gd wt we r (wipeD ρ vs) cs' acc (fun ds cs2 => P (.lst ds) cs2), ?_, ?_⟩
    · rintro H' ⟨cs', acc', vacc', s', ra', hl', h'⟩
      exact ⟨xs.length - (i + 1), by omega, by omega, rfl, cs', acc', vacc', s', ra', hl', by rw [e2]; exact h'⟩
    · intro x H3 hy
      obtain ⟨s3, r3⟩ := yi.yld i d e1 _ cs2 H2 x H3 s2 hy
      refine gk _ cs2 H3 _ (wipeD ρ vs) x d _ _ s3.self (reW.mono (s2.gr.trans s3.gr)) r3 wipe_wipe h2 fun σ4 ρ4 hw4 re4 h4 => ⟨hw4.trans rfl, ?_⟩
      refine ⟨_, cs2, ρ4, _, Z0, s3.self, re4, h4, fun H5 cs5 k s5 h5 => ?_, fun _ _ _ _ _ _ z => z⟩
      cases k with
      | false => exact iteF ⟨cs5, acc, vacc, s5.from_ (s2.gr.trans s3.gr), ra.mono (s3.gr.trans s5.gr), Nat.le_succ_of_le hla, h5.2 rfl⟩
      | true =>
        refine iteT ⟨_, cs5, ρ4, _, Z0, s5.self, re4.mono s5.gr, h5.1 rfl, fun H6 cs6 y dy s6 r6 h6 => ?_, fun _ _ _ _ _ _ z => z⟩
        have g6 := (s2.gr.trans s3.gr).trans (s5.gr.trans s6.gr)
        have s7 := (s6.from_ ((s2.gr.trans s3.gr).trans s5.gr))
        obtain ⟨s8, e8⟩ := s7.turn (o' := .lst (vacc ++ [y])) hFD
        refine ⟨vacc, s6.fr D _ upd_same, ?_, cs6, acc ++ [dy], vacc ++ [y], s8, ?_, by rw [List.length_append]; exact Nat.succ_le_succ hla, h6⟩
        · rw [ra.length]; exact Nat.lt_of_le_of_lt (Nat.le_trans hla hi) (Nat.lt_of_le_of_lt hlen (by decide))
        · rw [e8]
          exact (ra.mono (s3.gr.trans (s5.gr.trans s6.gr))).append (.cons r6 .nil)
variable {elt tg iter : Expr} {ifs : List Expr} {scope : Scope} {own : List (Str × Nat)} {pos : Pos} {wi : WI} {g : TG} {gd : WG} {wt : WT} {we : DL.WE}
theorem d_lc (hc : X.calm = true) (hN : X.N.Nodup) (hi : DI X W tg iter wi) (ok : BlkOk X.N X.env.scope scope own) (gk : GOk X.K g gd (own.map (·.2)))
    (hg : ∀ (s : Shared) (H : Hp) (C : Addr) (cl : List (Str × Addr)) (fp : List Addr), PG (X.blk s H scope (compEnvC scope cl C X.env) fp) tg g)
    (ht : ∀ (s : Shared) (H : Hp) (C : Addr) (cl : List (Str × Addr)) (fp : List Addr), PTs (X.blk s H scope (compEnvC scope cl C X.env) fp) ifs (lT X.K W0 wt))
    (he : ∀ (s : Shared) (H : Hp) (C : Addr) (cl : List (Str × Addr)) (fp : List Addr), DE (X.blk s H scope (compEnvC scope cl C X.env) fp) W0 elt we) (hs : ∀ x, foldedSetIterable iter X.env x = pure x := by intro _; rfl) :
    DE X W (.ListComp elt [⟨tg, iter, ifs, 0⟩] scope pos) (wComp wi gd wt we (own.map (·.2))) := PE.imp (pe_lc hc hN hi ok hg ht he hs) fun _ _ _ h => lc_ok gk h
theorem ds_setLc {i : Nat} {y : Str} {py spos : Pos} (hc : X.calm = true) (hN : X.N.Nodup) (hy : X.N[i]? = some y) (hyl : X.env.scope.names.lookup y = some .local)
    (hsw : swapsWith (.ListComp elt [⟨tg, iter, ifs, 0⟩] scope pos) (some (.Name y py)) spos.line X.env = pure true) (hi : DI X W tg iter wi) (ok : BlkOk X.N X.env.scope scope own) (gk : GOk X.K g gd (own.map (·.2)))
    (hg : ∀ (s : Shared) (H : Hp) (C : Addr) (cl : List (Str × Addr)) (fp : List Addr), PG (X.blk s H scope (compEnvC scope cl C X.env) fp) tg g)
    (ht : ∀ (s : Shared) (H : Hp) (C : Addr) (cl : List (Str × Addr)) (fp : List Addr), PTs (X.blk s H scope (compEnvC scope cl C X.env) fp) ifs (lT X.K W0 wt))
    (he : ∀ (s : Shared) (H : Hp) (C : Addr) (cl : List (Str × Addr)) (fp : List Addr), DE (X.blk s H scope (compEnvC scope cl C X.env) fp) W0 elt we) (hs : ∀ x, foldedSetIterable iter X.env x = pure x := by intro _; rfl) :
    DS X W (.Assign [.Name y py] (.ListComp elt [⟨tg, iter, ifs, 0⟩] scope pos) spos) (sAsg (wComp wi gd wt we (own.map (·.2))) (gN i)) :=
  PS.imp (ps_setLc hc hN hy hyl hsw hi ok hg ht he hs) fun E σ H h => by
    obtain ⟨F, cs, ρ, f, s, re, hw, pe⟩ := h
    have h2 : lE X.K W (wComp wi gd wt we (own.map (·.2))) σ H (fun x H1 => gName i x σ H1 E.nx) := ⟨F, cs, ρ, _, _, s, re, hw, fun H1 cs1 v d s1 r1 h1 => pe.nx H1 cs1 _ _ s1 ((re.mono s1.gr).set r1 i) h1, pe.px re⟩
    exact lc_ok gk h2
end
section
variable {ρ : DL.Env} {cs : Cs} {P : DP} {Z : XZ} {wa wb we : DL.WE} {w : WA} {wt : WT}
theorem r_isi {d : D} {n : String} {k : Bool} (e : isiD d n = some k) (h : P (.bl k) cs) : oIsi [d, .opq (.ty n)] cs P := by
  unfold oIsi; simp only [e]; exact h
theorem r_isiT {d : D} {n : String} (e : isiD d n = some true) (h : P (.bl true) cs) : oIsi [d, .opq (.ty n)] cs P := r_isi e h
theorem r_isiF {d : D} {n : String} (e : isiD d n = some false) (h : P (.bl false) cs) : oIsi [d, .opq (.ty n)] cs P := r_isi e h
theorem r_isiTT {d : D} {ts : List D} {t : String} {ns : List String} (e : tyS d = some t) (e2 : tyNames ts = some ns) (e3 : (ns.any fun n => isT t n) = true) (h : P (.bl true) cs) : oIsiT [d, .tup ts] cs P := by
  unfold oIsiT; simp only [e, e2, e3]; exact h
theorem r_isiTF {d : D} {ts : List D} {t : String} {ns : List String} (e : tyS d = some t) (e2 : tyNames ts = some ns) (e3 : (ns.any fun n => isT t n) = false) (h : P (.bl false) cs) : oIsiT [d, .tup ts] cs P := by
  unfold oIsiT; simp only [e, e2, e3]; exact h
theorem r_all {xs : List D} {ns : List Bool} (e : blsOf xs = some ns) (h : P (.bl (ns.all id)) cs) : oAll [.lst xs] cs P := by
  unfold oAll; simp only [e]; exact h
theorem r_tupleL {xs : List D} (h : P (.tup xs) cs) : oTuple [.lst xs] cs P := h
theorem r_tupleT {xs : List D} (h : P (.tup xs) cs) : oTuple [.tup xs] cs P := h
theorem r_catT {xs ys : List D} (hl : xs.length + ys.length ≤ 100000) (h : P (.tup (xs ++ ys)) cs) : oCatT (.tup xs) (.tup ys) cs P := ⟨hl, h⟩
theorem r_sl {o : D → Option Int → Option Int → Cs → DP → Prop} {wl wh : WO} (h : we ρ cs (fun x cs1 => wl ρ cs1 (fun l cs2 => wh ρ cs2 (fun u cs3 => o x l u cs3 P) Z) Z) Z) : wSl o we wl wh ρ cs P Z := h
theorem r_noPart {R : Option Int → Cs → Prop} (h : R none cs) : wNoPart ρ cs R Z := h
theorem r_part {R : Option Int → Cs → Prop} (h : we ρ cs (fun x cs1 => match x with | .int i => R (some i) cs1 | _ => False) Z) : wPart we ρ cs R Z := h
theorem r_slL {xs : List D} {lo hi : Option Int} (h : P (.lst (DL.cutD xs lo hi)) cs) : oSlL (.lst xs) lo hi cs P := h
theorem r_slT {xs : List D} {lo hi : Option Int} (h : P (.tup (DL.cutD xs lo hi)) cs) : oSlT (.tup xs) lo hi cs P := h
theorem r_zipL {xs ys : List D} {R : List D → Cs → Prop} (h : w ρ cs (fun ds cs1 => match ds with | [.lst xs, .lst ys] => R (List.zipWith (fun d e => D.tup [d, e]) xs ys) cs1 | [.tup xs, .tup ys] => R (List.zipWith (fun d e => D.tup [d, e]) xs ys) cs1 | _ => False) Z) : iZp w ρ cs R Z := h
theorem r_yes {R : Bool → Cs → Prop} (h : R true cs) : wYes ρ cs R Z := h
theorem r_comp {wi : WI} {g : WG} {vs : List Nat} (h : wi ρ cs (fun xs cs1 => xs.length ≤ 100000 ∧ compW g wt we xs (wipeD ρ vs) cs1 [] (fun ds cs2 => P (.lst ds) cs2)) Z) : wComp wi g wt we vs ρ cs P Z := h
/-- .. by an invariant: the place, what is made so far, the things that change -/
theorem r_compI {g : WG} {R : List D → Cs → Prop} (I : Nat → List D → Cs → Prop) : ∀ (xs acc : List D) (k : Nat) {cs : Cs}, I k acc cs →
    (∀ i d acc cs (N : List D → Cs → Prop), xs[i]? = some d → I (k + i) acc cs → (∀ acc' cs', I (k + i + 1) acc' cs' → N acc' cs') → g d ρ fun ρ1 => wt ρ1 cs (fun b cs1 => (b = true → we ρ1 cs1 (fun y cs2 => N (acc ++ [y]) cs2) Z0) ∧ (b = false → N acc cs1)) Z0) →
    (∀ acc cs, I (k + xs.length) acc cs → R acc cs) → compW g wt we xs ρ cs acc R
  | [], acc, k, cs, h0, hs, hd => hd acc cs h0
  | d :: r, acc, k, cs, h0, hs, hd => by
    refine hs 0 d acc cs (fun acc' cs' => compW g wt we r ρ cs' acc' R) rfl h0 fun acc' cs' h1 => r_compI I r acc' (k + 1) h1 (fun i d acc cs N e hi hn => ?_) (fun acc cs h => ?_)
    · have e1 : k + (i + 1) = k + 1 + i := by omega
      refine hs (i + 1) d acc cs N e (by rw [e1]; exact hi) fun acc' cs' hh => hn acc' cs' (by rw [← e1]; exact hh)
    · refine hd acc cs ?_
      have e1 : k + (d :: r).length = k + 1 + r.length := by rw [List.length_cons]; omega
      rw [e1]; exact h
theorem r_comp0 {g : WG} {R : List D → Cs → Prop} (I : Nat → List D → Cs → Prop) {xs : List D} (h0 : I 0 [] cs)
    (hs : ∀ i d acc cs (N : List D → Cs → Prop), xs[i]? = some d → I i acc cs → (∀ acc' cs', I (i + 1) acc' cs' → N acc' cs') → g d ρ fun ρ1 => wt ρ1 cs (fun b cs1 => (b = true → we ρ1 cs1 (fun y cs2 => N (acc ++ [y]) cs2) Z0) ∧ (b = false → N acc cs1)) Z0)
    (hd : ∀ acc cs, I xs.length acc cs → R acc cs) : compW g wt we xs ρ cs [] R :=
  r_compI I xs [] 0 h0 (fun i d acc cs N e hi hn => hs i d acc cs N e (by rw [Nat.zero_add] at hi; exact hi) (by rw [Nat.zero_add] at hn; exact hn)) (fun acc cs h => hd acc cs (by rw [Nat.zero_add] at h; exact h))
theorem take_more {α : Type} {l : List α} {i : Nat} {x : α} (h : l[i]? = some x) : l.take (i + 1) = l.take i ++ [x] := by
  obtain ⟨h1, h2⟩ := List.getElem?_eq_some_iff.mp h
  rw [List.take_succ, h]
  rfl
/-- each item that keeps p makes its f; nothing else changes -/
theorem r_compFM {g : WG} {R : List D → Cs → Prop} (p : D → Bool) (f : D → D) {xs : List D}
    (hs : ∀ d (N : DP) (N' : Cs → Prop), d ∈ xs → (p d = true → N (f d) cs) → (p d = false → N' cs) → g d ρ fun ρ1 => wt ρ1 cs (fun b cs1 => (b = true → we ρ1 cs1 N Z0) ∧ (b = false → N' cs1)) Z0)
    (hd : R ((xs.filter p).map f) cs) : compW g wt we xs ρ cs [] R := by
  refine r_comp0 (fun i acc cs' => acc = ((xs.take i).filter p).map f ∧ cs' = cs) ⟨rfl, rfl⟩ ?_ ?_
  · rintro i d acc cs' N e ⟨rfl, rfl⟩ hN
    refine hs d _ _ (List.mem_of_getElem? e) (fun h => hN _ _ ⟨?_, rfl⟩) (fun h => hN _ _ ⟨?_, rfl⟩)
    · rw [take_more e, List.filter_append, List.map_append, List.filter_cons_of_pos h]; rfl
    · rw [take_more e, List.filter_append, List.filter_cons_of_neg (by rw [h]; decide), List.filter_nil, List.append_nil]
  · rintro acc cs' ⟨rfl, rfl⟩
    rw [List.take_length]
    exact hd
theorem r_compM {g : WG} {R : List D → Cs → Prop} (f : D → D) {xs : List D}
    (hs : ∀ d (N : DP) (N' : Cs → Prop), d ∈ xs → N (f d) cs → g d ρ fun ρ1 => wt ρ1 cs (fun b cs1 => (b = true → we ρ1 cs1 N Z0) ∧ (b = false → N' cs1)) Z0)
    (hd : R (xs.map f) cs) : compW g wt we xs ρ cs [] R := by
  refine r_compFM (fun _ => true) f (fun d N N' h h1 h2 => hs d N N' h (h1 rfl)) ?_
  rw [List.filter_eq_self.mpr fun _ _ => rfl]
  exact hd
end
end DL
namespace DL
open PySem PySem.Spec PyProof.Rows L2
/-- what the bag holds: the script's copy, how many were taken, what is left of one, a number that goes round, a count -/
def BagOk (m : MO) : Prop := ∃ (cells : List Int) (k : Nat) (rest seed cnt : Int), m = .lst [.lst (cells.map D.int), .int (k : Int), .int rest, .int seed, .int cnt] ∧ 0 ≤ rest ∧ 0 ≤ seed ∧ seed < 2147483629
def BagIn (p : Addr) (cs : Cs) : Prop := ∃ b, look p cs = some b ∧ BagOk b
theorem BagIn.put {p : Addr} {cs : Cs} {b : MO} (h : BagIn p cs) (hb : BagOk b) : BagIn p (put p b cs) := by
  obtain ⟨b0, e, _⟩ := h
  exact ⟨b, look_put e, hb⟩
structure BagStep (p : Addr) (cs cs' : Cs) : Prop where
  bag : BagIn p cs'
  eq : ∃ b, cs' = put p b cs
theorem BagStep.trans {p : Addr} {c0 c1 c2 : Cs} (a : BagStep p c0 c1) (b : BagStep p c1 c2) : BagStep p c0 c2 := by
  obtain ⟨b1, e1⟩ := a.eq
  obtain ⟨b2, e2⟩ := b.eq
  exact ⟨b.bag, b2, by rw [e2, e1, put_put]⟩
theorem BagStep.refl {p : Addr} {cs : Cs} (h : BagIn p cs) : BagStep p cs cs := by
  obtain ⟨b, e, _⟩ := id h
  exact ⟨h, b, (put_look e).symm⟩
theorem BagStep.look {p q : Addr} {cs cs' : Cs} (a : BagStep p cs cs') (h : q ≠ p) : look q cs' = look q cs := by
  obtain ⟨b, e⟩ := a.eq
  rw [e, look_put_ne h]
mutual
/-- known data: nothing opaque, no dict with tuple keys -/
def knD : D → Bool
  | .tup xs => knL xs
  | .lst xs => knL xs
  | .opq _ => false
  | .dct _ => false
  | .ins _ _ => false
  | .xcp _ _ _ _ => false
  | _ => true
def knL : List D → Bool
  | [] => true
  | d :: ds => knD d && knL ds
end
theorem knL_mem : ∀ {ds : List D} {d : D}, knL ds = true → d ∈ ds → knD d = true
  | [], d, _, h => by cases h
  | e :: ds, d, hk, h => by
    simp only [knL, Bool.and_eq_true] at hk
    rcases List.mem_cons.mp h with z | z
    · rw [z]; exact hk.1
    · exact knL_mem hk.2 z
def wholeD : D → Bool
  | .int _ => true
  | _ => false
def partD : D → Bool
  | .tup [.int a, .int b] => decide (0 < b) && decide (Nat.gcd a.natAbs b.natAbs = 1)
  | _ => false
theorem partD_dR (r : Rat) : partD (dR r) = true := by
  have h1 := den_pos r
  have h2 : Nat.gcd r.num.natAbs (r.den : Int).natAbs = 1 := by rw [Int.natAbs_natCast]; exact r.reduced
  show (decide _ && decide _) = true
  rw [decide_eq_true h1, decide_eq_true h2]; rfl
theorem partD_len {xs : List D} (h : xs.length ≠ 2) : partD (.tup xs) = false := by
  unfold partD
  split
  · rename_i e
    cases e
    exact absurd rfl h
  · rfl
def dB (l t w h : Rat) : D := .tup [dR l, dR t, dR w, dR h]
def posD : D → Bool
  | .tup (.int a :: _) => decide (0 < a)
  | _ => false
def boxD : D → Bool
  | .tup [a, b, c, d] => partD a && (partD b && (partD c && (partD d && (posD c && posD d))))
  | _ => false
theorem posD_dR (r : Rat) : posD (dR r) = decide (0 < r) := by
  show decide (0 < r.num) = decide (0 < r)
  refine decide_eq_decide.mpr ?_
  rw [Rat.lt_iff]; simp
theorem boxD_dB (l t w h : Rat) : boxD (dB l t w h) = (decide (0 < w) && decide (0 < h)) := by
  unfold dB boxD
  simp only [partD_dR, posD_dR, Bool.true_and]
theorem boxD_len {xs : List D} (h : xs.length ≠ 4) : boxD (.tup xs) = false := by
  unfold boxD
  split
  · rename_i e
    cases e
    exact absurd rfl h
  · rfl
theorem partD_inv {d : D} (h : partD d = true) : ∃ r : Rat, d = dR r := by
  unfold partD at h
  split at h
  · rename_i a b
    rw [Bool.and_eq_true] at h
    have h1 := of_decide_eq_true h.1
    have h2 := of_decide_eq_true h.2
    refine ⟨⟨a, b.toNat, by omega, ?_⟩, ?_⟩
    · have e : b.toNat = b.natAbs := by omega
      rw [e]; exact h2
    · unfold dR
      have e : ((b.toNat : Nat) : Int) = b := by omega
      rw [e]
  · cases h
theorem p1000 {n : Nat} (h : n ≤ 20) : (1000 : Int) ^ n ≤ 1000 ^ 20 := by
  exact_mod_cast Nat.pow_le_pow_right (n := 1000) (by decide) h
theorem Sz.ofInt {n : Int} {k : Nat} (h : n.natAbs < 2 ^ k) (hk : 1 < 2 ^ k) : Sz k (n : Rat) := ⟨h, hk⟩
theorem ofInt_pos {n : Int} (h : 0 < n) : (0 : Rat) < (n : Rat) := Rat.intCast_pos.mpr h
/-- a box of drawn numbers -/
structure BoxOk (l t w h : Rat) : Prop where
  sl : Sz 202 l
  st : Sz 202 t
  sw : Sz 202 w
  sh : Sz 202 h
  pw : 0 < w
  ph : 0 < h
def isNonD : D → Bool
  | .non => true
  | .opq v => decide (v = .non)
  | _ => false
def oIsN : DO2 := fun x y cs P => match y with
  | .non => P (.bl (isNonD x)) cs
  | _ => False
def oNotN : DO2 := fun x y cs P => match y with
  | .non => P (.bl (!isNonD x)) cs
  | _ => False
section
variable {X : Cx} {W : WX} {K : PySem.W.Frag} {pos : Pos} {a b : Expr} {wa wb : DL.WE}
theorem isNon_ok {G : Hp} {x : V} {d : D} (r : Rep K G x d) : decide (x = .non) = isNonD d := by
  cases r <;> first | rfl | simp [isNonD]
theorem adq_isN : Adq K (fun x y H Q => y = .non ∧ Q (.bl (decide (x = .non))) H) oIsN := fun F cs H x y dx dy P Q s rx ry ho pe => by
  cases dy <;> try exact ho.elim
  cases ry
  exact ⟨rfl, by rw [isNon_ok rx]; exact pe H cs _ _ s (.bl _) ho⟩
theorem adq_notN : Adq K (fun x y H Q => y = .non ∧ Q (.bl (!decide (x = .non))) H) oNotN := fun F cs H x y dx dy P Q s rx ry ho pe => by
  cases dy <;> try exact ho.elim
  cases ry
  exact ⟨rfl, by rw [isNon_ok rx]; exact pe H cs _ _ s (.bl _) ho⟩
theorem d_is (ha : DE X W a wa) (hb : DE X W b wb) : DE X W (.Compare a [.Is] [b] pos) (wOp oIsN wa wb) := d_cmp op_isN adq_isN ha hb (nomark _)
theorem dt_is (ha : DE X W a wa) (hb : DE X W b wb) : DT X W (.Compare a [.Is] [b] pos) (wTest (wOp oIsN wa wb)) := dt_cmp op_isN adq_isN ha hb (nomark _)
theorem dt_isnot (ha : DE X W a wa) (hb : DE X W b wb) : DT X W (.Compare a [.IsNot] [b] pos) (wTest (wOp oNotN wa wb)) := dt_cmp op_notN adq_notN ha hb (nomark _)
end
section
variable {cs : Cs} {P : DP} {d : D}
theorem r_isN (h : P (.bl (isNonD d)) cs) : oIsN d .non cs P := h
theorem r_notN (h : P (.bl (!isNonD d)) cs) : oNotN d .non cs P := h
theorem r_eqBs {k : Bool} (h : P (.bl true) cs) : oEq (.bl k) (.bl k) cs P := r_eqB (by rw [beq_self_eq_true]; exact h)
theorem r_neBs {k : Bool} (h : P (.bl false) cs) : oNe (.bl k) (.bl k) cs P := r_neB (by rw [beq_self_eq_true]; exact h)
end
def oIsB : DO2 := fun x y cs P => match x, y with
  | .bl a, .bl b => P (.bl (decide (a = b))) cs
  | _, _ => False
def oNotB : DO2 := fun x y cs P => match x, y with
  | .bl a, .bl b => P (.bl (!decide (a = b))) cs
  | _, _ => False
section
variable {cs : Cs} {P : DP} {k l : Bool}
theorem r_isBs (h : P (.bl true) cs) : oIsB (.bl k) (.bl k) cs P := by
  show P (.bl (decide (k = k))) cs
  rw [decide_eq_true rfl]; exact h
theorem r_notBs (h : P (.bl false) cs) : oNotB (.bl k) (.bl k) cs P := by
  show P (.bl (!decide (k = k))) cs
  rw [decide_eq_true rfl]; exact h
theorem r_isB (h : P (.bl (decide (k = l))) cs) : oIsB (.bl k) (.bl l) cs P := h
theorem r_notB (h : P (.bl (!decide (k = l))) cs) : oNotB (.bl k) (.bl l) cs P := h
end
theorem atD_mem {xs : List D} {r : Int} (h0 : 0 ≤ r) (h1 : r < xs.length) : ∃ x, x ∈ xs ∧ atD xs r = some x := by
  obtain ⟨n, rfl⟩ := Int.eq_ofNat_of_zero_le h0
  have hr : n < xs.length := by omega
  exact ⟨xs[n], List.getElem_mem _, atI_nat (List.getElem?_eq_getElem hr)⟩
mutual
theorem eqD_refl : ∀ (d : D) (n : Nat), plD n d = true → eqD d d = true
  | .non, _, _ => rfl
  | .bl b, _, _ => by simp [eqD]
  | .int i, _, _ => by simp [eqD]
  | .str x, _, _ => by simp [eqD]
  | .tup xs, 0, h => by simp [plD] at h
  | .lst xs, 0, h => by simp [plD] at h
  | .tup xs, n + 1, h => by simp only [eqD]; exact eqL_refl xs n (plD_t h)
  | .lst xs, n + 1, h => by simp only [eqD]; exact eqL_refl xs n (plD_l h)
  | .dic _, n, h => by cases n <;> simp [plD] at h
  | .dct _, n, h => by cases n <;> simp [plD] at h
  | .ins _ _, n, h => by cases n <;> simp [plD] at h
  | .xcp _ _ _ _, n, h => by cases n <;> simp [plD] at h
  | .opq _, n, h => by cases n <;> simp [plD] at h
theorem eqL_refl : ∀ (d : List D) (n : Nat), plL n d = true → eqL d d = true
  | [], _, _ => rfl
  | d :: ds, n, h => by
    simp only [plL, Bool.and_eq_true] at h
    simp only [eqL, Bool.and_eq_true]
    exact ⟨eqD_refl d n h.1, eqL_refl ds n h.2⟩
end
mutual
theorem plD_mono : ∀ (d : D) {n m : Nat}, plD n d = true → n ≤ m → plD m d = true
  | .non, n, m, _, _ => by cases m <;> rfl
  | .bl b, n, m, _, _ => by cases m <;> rfl
  | .int i, n, m, _, _ => by cases m <;> rfl
  | .str x, n, m, _, _ => by cases m <;> rfl
  | .tup xs, 0, m, h, _ => by simp [plD] at h
  | .lst xs, 0, m, h, _ => by simp [plD] at h
  | .tup xs, n + 1, 0, h, l => by omega
  | .lst xs, n + 1, 0, h, l => by omega
  | .tup xs, n + 1, m + 1, h, l => plD_tI (plL_mono xs (plD_t h) (by omega)) (plD_tn h)
  | .lst xs, n + 1, m + 1, h, l => plD_lI (plL_mono xs (plD_l h) (by omega)) (plD_ln h)
  | .dic _, n, m, h, _ => by cases n <;> simp [plD] at h
  | .dct _, n, m, h, _ => by cases n <;> simp [plD] at h
  | .ins _ _, n, m, h, _ => by cases n <;> simp [plD] at h
  | .xcp _ _ _ _, n, m, h, _ => by cases n <;> simp [plD] at h
  | .opq _, n, m, h, _ => by cases n <;> simp [plD] at h
theorem plL_mono : ∀ (d : List D) {n m : Nat}, plL n d = true → n ≤ m → plL m d = true
  | [], _, _, _, _ => rfl
  | d :: ds, n, m, h, l => by
    simp only [plL, Bool.and_eq_true] at h ⊢
    exact ⟨plD_mono d h.1 l, plL_mono ds h.2 l⟩
end
theorem plL_mem : ∀ {ds : List D} {d : D} {n : Nat}, plL n ds = true → d ∈ ds → plD n d = true
  | [], d, _, _, h => by cases h
  | e :: ds, d, n, hk, h => by
    simp only [plL, Bool.and_eq_true] at hk
    rcases List.mem_cons.mp h with z | z
    · rw [z]; exact hk.1
    · exact plL_mem hk.2 z
theorem plL_of : ∀ {ds : List D} {n : Nat}, (∀ d ∈ ds, plD n d = true) → plL n ds = true
  | [], _, _ => rfl
  | d :: ds, n, h => by
    simp only [plL, Bool.and_eq_true]
    exact ⟨h d (List.mem_cons_self ..), plL_of fun e he => h e (List.mem_cons_of_mem _ he)⟩
theorem r_eqSelf {cs : Cs} {P : DP} {d : D} (hd : plD 20 d = true) (h : P (.bl true) cs) : oEq d d cs P := ⟨hd, hd, by rw [eqD_refl d 20 hd]; exact h⟩
theorem r_neSelf {cs : Cs} {P : DP} {d : D} (hd : plD 20 d = true) (h : P (.bl false) cs) : oNe d d cs P := ⟨hd, hd, by rw [eqD_refl d 20 hd]; exact h⟩
theorem vacF {P : Program} {w : World} {K : PySem.W.Frag} {mg : Str → Option Value} {base : Heap} {CX : CXT} {k : Nat} {f : Addr} {fd : FuncData} {ps : List Str} {n : Nat} : FnOk P w K mg base CX k f fd ps (spL K n fun _ _ _ _ => False) :=
  ⟨fun _ _ _ _ h => by obtain ⟨_, _, _, _, _, _, _, _, z, _⟩ := h; exact z.elim, fun _ _ _ _ _ _ _ _ _ _ _ _ _ h => by obtain ⟨_, _, _, _, _, _, _, _, z, _⟩ := h; exact z.elim⟩
end DL
namespace DL
open PySem PySem.Spec PyProof.Rows L2
def del (p : Addr) : Cs → Cs
  | [] => []
  | (a, x) :: r => if a = p then r else (a, x) :: del p r
theorem mem_del {p a : Addr} {x : MO} : ∀ {cs : Cs}, (a, x) ∈ del p cs → (a, x) ∈ cs
  | [], h => h
  | (b, y) :: r, h => by
    unfold del at h
    split at h
    · exact List.mem_cons_of_mem _ h
    · rcases List.mem_cons.mp h with e | e
      · rw [e]; exact List.mem_cons_self ..
      · exact List.mem_cons_of_mem _ (mem_del e)
theorem adr_del {p a : Addr} {cs : Cs} (h : a ∈ adr (del p cs)) : a ∈ adr cs := by
  obtain ⟨⟨b, x⟩, hm, e⟩ := List.mem_map.mp h
  exact List.mem_map.mpr ⟨(b, x), mem_del hm, e⟩
theorem nd_del {p : Addr} : ∀ {cs : Cs}, (adr cs).Nodup → (adr (del p cs)).Nodup ∧ p ∉ adr (del p cs)
  | [], h => ⟨h, fun z => by cases z⟩
  | (a, x) :: r, h => by
    obtain ⟨n1, n2⟩ := List.nodup_cons.mp (show (a :: adr r).Nodup from h)
    obtain ⟨i1, i2⟩ := nd_del (p := p) n2
    unfold del
    split
    · rename_i e
      rw [← e]
      exact ⟨n2, n1⟩
    · rename_i e
      refine ⟨List.nodup_cons.mpr ⟨fun z => n1 (adr_del z), i1⟩, fun z => ?_⟩
      rcases List.mem_cons.mp (show p ∈ a :: adr (del p r) from z) with z | z
      · exact e z.symm
      · exact i2 z
theorem Sta.frz {K : PySem.W.Frag} {F G0 H : Hp} {cs : Cs} {p : Addr} {m : MO} (s : Sta K F G0 cs H) (hl : DL.look p cs = some m) : Sta K F G0 (del p cs) H ∧ Ex (pur F cs H) (pur F (del p cs) H) ∧ ∃ o, pur F (del p cs) H p = some o ∧ MoOk K (pur F (del p cs) H) m o := by
  have g : Ex (pur F cs H) (pur F (del p cs) H) := fun b u e => by
    obtain ⟨e1, e2, e3⟩ := pur_of e
    rw [pur_at e2 fun z => e3 (adr_del z)]; exact e1
  obtain ⟨n1, n2⟩ := nd_del (p := p) s.nd
  have hp : p ∈ adr cs := List.mem_map.mpr ⟨(p, m), look_mem hl, rfl⟩
  refine ⟨⟨s.fr, s.gr.trans g, n1, fun a h => s.ap a (adr_del h), fun a m' h => ?_, s.ft⟩, g, ?_⟩
  · obtain ⟨u, hu, r⟩ := s.ow a m' (mem_del h)
    exact ⟨u, hu, r.mono g⟩
  · obtain ⟨u, hu, r⟩ := s.ow p m (look_mem hl)
    exact ⟨u, by rw [pur_at (s.ap p hp) n2]; exact hu, r.mono g⟩
section
variable {X : Cx} {W : WX} {K : PySem.W.Frag} {σ : L2.St} {H : Hp} {pos : Pos} {a b c e : Expr} {es : List Expr} {wa wb wc we : DL.WE} {w wk : WA}
def wFrz (we : DL.WE) : DL.WE := fun ρ cs P Z => we ρ cs (fun d cs1 => ∃ p xs, d = .opq (.ref p) ∧ look p cs1 = some (.lst xs) ∧ P (.lst xs) (del p cs1)) Z
theorem d_frz (h : DE X W e we) : DE X W e (wFrz we) := PE.imp h fun σ H Q h => by
  obtain ⟨F, cs, ρ, P, Z, s, re, hw, pe, px⟩ := h
  refine ⟨F, cs, ρ, _, Z, s, re, hw, fun H1 cs1 v d s1 r1 h1 => ?_, px⟩
  obtain ⟨p, xs, rfl, hl, h1⟩ := h1
  cases r1
  obtain ⟨s2, g2, o, ho, m⟩ := s1.frz hl
  cases o <;> try exact m.elim
  exact pe H1 _ _ _ s2 (.lst (SqL.of ho) m) h1
mutual
inductive Lend (cs : Cs) : D → D → Prop
  | same (d : D) : Lend cs d d
  | at_ {p : Addr} {xs ys : List D} : look p cs = some (.lst xs) → LendL cs xs ys → Lend cs (.opq (.ref p)) (.lst ys)
  | tup {xs ys : List D} : LendL cs xs ys → Lend cs (.tup xs) (.tup ys)
  | lst {xs ys : List D} : LendL cs xs ys → Lend cs (.lst xs) (.lst ys)
inductive LendL (cs : Cs) : List D → List D → Prop
  | nil : LendL cs [] []
  | cons {x y : D} {xs ys : List D} : Lend cs x y → LendL cs xs ys → LendL cs (x :: xs) (y :: ys)
end
theorem LendL.self (cs : Cs) : ∀ xs, LendL cs xs xs
  | [] => .nil
  | x :: xs => .cons (.same x) (LendL.self cs xs)
inductive LendE (cs : Cs) : DL.Env → DL.Env → Prop
  | nil : LendE cs [] []
  | none {ρ ρ' : DL.Env} {x : Option D} : LendE cs ρ ρ' → LendE cs (x :: ρ) (none :: ρ')
  | some {ρ ρ' : DL.Env} {d d' : D} : Lend cs d d' → LendE cs ρ ρ' → LendE cs (some d :: ρ) (some d' :: ρ')
def flatD : D → Bool
  | .non => true
  | .bl _ => true
  | .int _ => true
  | .str _ => true
  | _ => false
section
variable {F G0 : Hp} {cs : Cs}
theorem pur_nil (s : Sta K F G0 cs H) : Ex (pur F cs H) (pur F [] H) := fun b u e => by
  obtain ⟨e1, e2, e3⟩ := pur_of e
  rw [pur_at e2 (fun z => by cases z)]; exact e1
mutual
theorem Lend.rep (s : Sta K F G0 cs H) : ∀ {d d' : D} {v : V}, Lend cs d d' → Rep K (pur F cs H) v d → Rep K (pur F [] H) v d'
  | _, _, v, .same d, r => r.mono (pur_nil s)
  | _, _, v, .at_ (p := p) hl l, r => by
    cases r
    obtain ⟨o, e, m⟩ := s.look hl
    have hp : p ∈ adr cs := List.mem_map.mpr ⟨(p, _), look_mem hl, rfl⟩
    cases o <;> try exact m.elim
    exact .lst (SqL.of (by rw [pur_at (s.ap p hp) (fun z => by cases z)]; exact e)) (LendL.rep s l m)
  | _, _, v, .tup l, r => by
    cases r with
    | tup h r => exact .tup (ex_t (pur_nil s) h) (LendL.rep s l r)
  | _, _, v, .lst l, r => by
    cases r with
    | lst h r => exact .lst (ex_l (pur_nil s) h) (LendL.rep s l r)
theorem LendL.rep (s : Sta K F G0 cs H) : ∀ {d d' : List D} {v : List V}, LendL cs d d' → RepL K (pur F cs H) v d → RepL K (pur F [] H) v d'
  | _, _, _, .nil, r => by cases r; exact .nil
  | _, _, _, .cons l ls, r => by
    cases r with
    | cons r rs => exact .cons (Lend.rep s l r) (LendL.rep s ls rs)
end
end
theorem LendE.rep {F G0 : Hp} {cs : Cs} (s : Sta K F G0 cs H) : ∀ {ρ ρ' : DL.Env} {σ : L2.St}, LendE cs ρ ρ' → RepE K (pur F cs H) σ ρ → RepE K (pur F [] H) σ ρ'
  | _, _, _, .nil, r => by cases r; exact .nil
  | _, _, _, .none l, r => by
    cases r with
    | cons q r => exact .cons .skip (LendE.rep s l r)
  | _, _, _, .some h l, r => by
    cases r with
    | cons q r =>
      cases q with
      | held q => exact .cons (.held (Lend.rep s h q)) (LendE.rep s l r)
variable {x : Str} {p : Pos}
theorem d_gstr {z : Str} (hg : Gl X x) (h : ∃ t, X.mg x = some (.str z t)) (hd : (x == ("__debug__" : Str)) = false := by decide) : DE X W (.Name x pos) (wC (.str z)) := by
  obtain ⟨t, h⟩ := h
  exact d_of (pe_glob (v := .str z) hg h ⟨_, rfl⟩ hd) fun _ => .str _
theorem d_gint {i : Int} (hg : Gl X x) (h : ∃ t, X.mg x = some (.int i t)) (hd : (x == ("__debug__" : Str)) = false := by decide) : DE X W (.Name x pos) (wC (.int i)) := by
  obtain ⟨t, h⟩ := h
  exact d_of (pe_glob (v := .int i) hg h ⟨_, rfl⟩ hd) fun _ => .int _
def wChain (o o' : DO2) (wa wb wc : DL.WE) : DL.WE := fun ρ cs P Z => wa ρ cs (fun x cs1 => wb ρ cs1 (fun y cs2 => o x y cs2 fun z cs3 => match z with
  | .bl k => (k = true → wc ρ cs3 (fun u cs4 => o' y u cs4 P) Z) ∧ (k = false → P (.bl false) cs3)
  | _ => False) Z) Z
theorem chain_ok {r r' : R2} {o o' : DO2} (adq : Adq K r o) (adq' : Adq K r' o') {Q : VK} : lE K W (wChain o o' wa wb wc) σ H Q → tChain r r' (lE K W wa) (lE K W wb) (lE K W wc) σ H Q := by
  rintro ⟨F, cs, ρ, P, Z, s, re, hw, pe, px⟩
  refine ⟨F, cs, ρ, _, Z, s, re, hw, fun H1 cs1 v d s1 r1 h1 => ?_, px⟩
  refine ⟨F, cs1, ρ, _, Z, s1.self, re.mono s1.gr, h1, fun H2 cs2 v2 d2 s2 r2 h2 => ?_, px.le s1.gr⟩
  refine adq F cs2 H2 v v2 d d2 _ _ s2.self (r1.mono s2.gr) r2 h2 fun H3 cs3 v3 d3 s3 r3 h3 => ?_
  have g2 := s1.gr.trans s2.gr
  have g3 := g2.trans s3.gr
  cases d3 <;> try exact h3.elim
  rename_i k
  cases r3
  refine ⟨k, rfl, ?_⟩
  cases k with
  | true =>
    refine iteT ⟨F, cs3, ρ, _, Z, s3.self, re.mono g3, h3.1 rfl, fun H4 cs4 v4 d4 s4 r4 h4 => ?_, px.le g3⟩
    exact adq' F cs4 H4 v2 v4 d2 d4 P Q s4.self ((r2.mono s3.gr).mono s4.gr) r4 h4 (pe.le (g3.trans s4.gr))
  | false => exact iteF (pe H3 cs3 _ _ (s3.from_ g2) (.bl _) (h3.2 rfl))
theorem d_chain {op op' : CmpOp} {r r' : R2} {o o' : DO2} (ho : OpR X (compareOp op) r) (ho' : OpR X (compareOp op') r') (adq : Adq X.K r o) (adq' : Adq X.K r' o') (ha : DE X W a wa) (hb : DE X W b wb) (hc : DE X W c wc)
    (hm : lastMarks [op, op'] [b, c] = false) : DE X W (.Compare a [op, op'] [b, c] pos) (wChain o o' wa wb wc) := PE.imp (pe_chain ho ho' ha hb hc hm) fun _ _ _ h => chain_ok adq adq' h
theorem dt_chain {op op' : CmpOp} {r r' : R2} {o o' : DO2} (ho : OpR X (compareOp op) r) (ho' : OpR X (compareOp op') r') (adq : Adq X.K r o) (adq' : Adq X.K r' o') (ha : DE X W a wa) (hb : DE X W b wb) (hc : DE X W c wc)
    (hm : lastMarks [op, op'] [b, c] = false) : DT X W (.Compare a [op, op'] [b, c] pos) (wTest (wChain o o' wa wb wc)) := PT.imp (pt_chain ho ho' ha hb hc hm) fun σ H Q h => by
  obtain ⟨F, cs, ρ, P, Z, s, re, hw, pe, px⟩ := h
  refine chain_ok (W := W) (Q := fun x H' => ∃ k, x = V.bl k ∧ Q k H') adq adq' ⟨F, cs, ρ, _, Z, s, re, hw, fun H1 cs1 v d s1 r1 h1 => ?_, px⟩
  obtain ⟨k, rfl, h⟩ := test_inv h1
  cases r1
  exact ⟨k, rfl, pe H1 cs1 k s1 h⟩
theorem d_chain_le_le (ha : DE X W a wa) (hb : DE X W b wb) (hc : DE X W c wc) (hm : lastMarks [.LtE, .LtE] [b, c] = false := by with_unfolding_all rfl) : DE X W (.Compare a [.LtE, .LtE] [b, c] pos) (wChain oLe oLe wa wb wc) := d_chain op_le op_le (adq_I0 fun _ _ _ => .bl _) (adq_I0 fun _ _ _ => .bl _) ha hb hc hm
theorem dt_chain_le_le (ha : DE X W a wa) (hb : DE X W b wb) (hc : DE X W c wc) (hm : lastMarks [.LtE, .LtE] [b, c] = false := by with_unfolding_all rfl) : DT X W (.Compare a [.LtE, .LtE] [b, c] pos) (wTest (wChain oLe oLe wa wb wc)) := dt_chain op_le op_le (adq_I0 fun _ _ _ => .bl _) (adq_I0 fun _ _ _ => .bl _) ha hb hc hm
def oIn : DO2 := fun x y cs P => (∃ (s : Str) (ss : List Str), x = .str s ∧ (y = .tup (ss.map D.str) ∨ y = .lst (ss.map D.str)) ∧ P (.bl (decide (s ∈ ss))) cs) ∨ (∃ (s : Int) (ss : List Int), x = .int s ∧ (y = .tup (ss.map D.int) ∨ y = .lst (ss.map D.int)) ∧ P (.bl (decide (s ∈ ss))) cs)
def oNotIn : DO2 := fun x y cs P => (∃ (s : Str) (ss : List Str), x = .str s ∧ (y = .tup (ss.map D.str) ∨ y = .lst (ss.map D.str)) ∧ P (.bl (!decide (s ∈ ss))) cs) ∨ (∃ (s : Int) (ss : List Int), x = .int s ∧ (y = .tup (ss.map D.int) ∨ y = .lst (ss.map D.int)) ∧ P (.bl (!decide (s ∈ ss))) cs)
def sPar3 (i j l : Nat) (w : WA) : WS := fun f ρ cs => w ρ cs (fun ds cs1 => match ds with
  | [x, y, z] => f.nx (((ρ.set i (some x)).set j (some y)).set l (some z)) cs1
  | _ => False) (fun x cs1 => f.ex x ρ cs1)
def wCallK (sp : DSp) (w wk : WA) : DL.WE := fun ρ cs P Z => w ρ cs (fun ds cs1 => wk ρ cs1 (fun zs cs2 => sp (ds ++ zs) cs2 P Z) Z) Z
end
section
variable {X : Cx} {W : WX} {K : PySem.W.Frag} {e tg : Expr} {we : DL.WE}
def iAnyV (K : PySem.W.Frag) (tl : TE) : TI := fun σ H R => tl σ H fun x H1 => ∃ a, x = .ref a ∧ ((∃ xs, SqL K H1 a xs) ∧ R (Itl K a) H1 ∨ (∃ xs, SqT K H1 a xs) ∧ R (Itt K a) H1)
theorem pi_any {l : Expr} {tl : TE} (hl : PE X l tl) : PI X tg l (iAnyV X.K tl) := by
  refine ⟨fun pins s σ H R I h => ?_⟩
  refine thn (hl.run pins s σ H _ I h) fun v s1 ⟨x, H1, I1, r1, q1⟩ => ?_
  obtain ⟨a, e, q⟩ := q1
  subst e
  cases r1
  rcases q with ⟨⟨xs, hq⟩, q⟩ | ⟨⟨xs, hq⟩, q⟩
  · obtain ⟨its, rv, p, hz⟩ := I1.list hq
    refine wpAny_pyIter_list p.isList ?_
    refine ⟨s1.heap.objs.size, [s1.heap.objs.size], _, _, H1, rfl, I1.kept (t' := s1.toks) fun b o e => Heap.get?_push_of_some _ e, turn_list a _, ⟨_, Heap.get?_push_size _ rfl, rfl, rfl⟩, fun b hb => ?_, q⟩
    have e : b = s1.heap.objs.size := by simpa using hb
    subst e
    exact I1.fpOk (Nat.le_refl _) (I1.hok.fresh (Nat.le_refl _))
  · obtain ⟨its, rv, p, hz⟩ := I1.tuple hq
    refine wpAny_pyIter_tuple (show s1.heap.IsTuple a its.toArray from p) ?_
    refine ⟨s1.heap.objs.size, [s1.heap.objs.size], _, _, H1, rfl, I1.kept (t' := s1.toks) fun b o e => Heap.get?_push_of_some _ e, turn_tuple a _, ⟨_, Heap.get?_push_size _ rfl, rfl, rfl⟩, fun b hb => ?_, q⟩
    have e : b = s1.heap.objs.size := by simpa using hb
    subst e
    exact I1.fpOk (Nat.le_refl _) (I1.hok.fresh (Nat.le_refl _))
def iAnyD (we : DL.WE) : WI := fun ρ cs P Z => we ρ cs (fun d cs1 => match d with
  | .lst xs => P xs cs1
  | .tup xs => P xs cs1
  | _ => False) Z
theorem di_any (h : DE X W e we) : DI X W tg e (iAnyD we) := PI.imp (pi_any h) fun σ H R hq => by
  obtain ⟨F, cs, ρ, P, Z, s, re, hw, pe, px⟩ := hq
  refine ⟨F, cs, ρ, _, Z, s, re, hw, fun H1 cs1 v d s1 r1 h1 => ?_, px⟩
  cases d <;> try exact h1.elim
  · cases r1 with
    | tup h r => exact ⟨_, rfl, .inr ⟨⟨_, ex_t pur_le h⟩, pe H1 cs1 _ _ s1 (yi_tup h r) h1⟩⟩
  · cases r1 with
    | lst h r => exact ⟨_, rfl, .inl ⟨⟨_, ex_l pur_le h⟩, pe H1 cs1 _ _ s1 (yi_list h r) h1⟩⟩
theorem sum_tupG {prog : Program} {w : World} {A : Around} {E : Value → Shared → Prop} {s : Shared} {l : Addr} {xs : Array (Int × Tok)} {Q : Value → Shared → Prop} (hh : A.handled = none) (hT : s.heap.IsTuple l (intItems xs))
    (h : ∀ h' tk t', (∀ b o, s.heap.get? b = some o → h'.get? b = some o) → Q (.int (preSum (numAt xs) xs.size) t') { s with heap := h', toks := tk }) :
    wpAny (model prog w) A (call (.builtin "sum") [.ref l]) Q E s := by
  have hlt : l < s.heap.objs.size := by obtain ⟨_, e, _⟩ := hT; exact Heap.lt_size e
  refine call_sum_walkG (wpAny_pyIter_tuple hT ?_)
  refine ⟨_, [_, l], [_], _, _, _, numAt xs, rfl, Walks.tuple (A := A.in1) hh _ l (Nat.ne_of_lt hlt) (intItems xs), ⟨⟨_, Heap.get?_push_size _ rfl, rfl, rfl⟩, hT.push _⟩, fun c hc => ?_, (fun _ _ => intItems_at), fun h' tk t' hk => ?_⟩
  · show c < (s.heap.push _).objs.size
    rw [Heap.size_push]
    rcases List.mem_cons.mp hc with rfl | hc
    · exact Nat.lt_succ_self _
    · rw [List.mem_singleton.mp hc]; exact Nat.lt_succ_of_lt hlt
  · have := h h' tk t' (fun b o e => by
      refine hk b o (fun hm => ?_) (Heap.get?_push_of_some _ e)
      exact absurd ((List.mem_singleton.mp hm) ▸ Heap.lt_size e) (Nat.lt_irrefl _))
    simpa [intItems] using this
def rSumA (K : PySem.W.Frag) : List V → Hp → VK → Prop := fun vs H Q => ∃ (a : Addr) (ns : List Int), vs = [V.ref a] ∧ (SqL K H a (ns.map V.int) ∨ SqT K H a (ns.map V.int)) ∧ Q (.int ns.sum) H
theorem cr_sumA (hc : X.calm = true) : CallR X (.builtin "sum") (rSumA X.K) := by
  intro pins s σ H vs us Q I r h
  obtain ⟨a, ns, rfl, hs, q⟩ := h
  rw [Vals.ref1 r]
  rcases hs with hs | hs
  · obtain ⟨its, rv, hl, _⟩ := I.list hs
    exact sum_raw (I.ok.hd hc) hl.isList rv.ints fun h' tk t' hk => ⟨.int _, H, I.kept hk, ⟨_, rfl⟩, q⟩
  · obtain ⟨its, rv, hl, _⟩ := I.tuple hs
    have hi := rv.ints
    obtain ⟨xs, e⟩ := hi.allInts.items
    have hn : numsOf (intItems xs).toList = ns := by rw [← e]; exact hi.numsOf
    rw [nums_intItems] at hn
    have hl' : s.heap.IsTuple a its.toArray := hl
    rw [e] at hl'
    refine sum_tupG (I.ok.hd hc) hl' fun h' tk t' hk => ?_
    rw [preSum_eq, List.take_of_length_le (by simp), hn]
    exact ⟨.int _, H, I.kept hk, ⟨_, rfl⟩, q⟩
def oSumA : DOn := fun ds cs P => ∃ ns : List Int, (ds = [.lst (ns.map D.int)] ∨ ds = [.tup (ns.map D.int)]) ∧ P (.int ns.sum) cs
theorem adq_sumA : AdqN K (rSumA K) oSumA := fun F cs H xs ds P Q s r ho pe => by
  obtain ⟨ns, h, q⟩ := ho
  rcases h with rfl | rfl
  · cases r with
    | cons r1 r2 =>
      cases r2
      cases r1 with
      | lst h r =>
        have e2 := RepL.intsL ns r
        subst e2
        exact ⟨_, ns, rfl, .inl (ex_l pur_le h), pe H cs _ _ s (.int _) q⟩
  · cases r with
    | cons r1 r2 =>
      cases r2
      cases r1 with
      | tup h r =>
        have e2 := RepL.intsL ns r
        subst e2
        exact ⟨_, ns, rfl, .inr (ex_t pur_le h), pe H cs _ _ s (.int _) q⟩
end
section
variable {ρ : DL.Env} {cs : Cs} {P : DP} {Z : XZ} {wa wb wc we : DL.WE} {w wk : WA} {d : D} {p : Addr} {xs : List D} {f : Fin}
theorem look_hd {m : MO} : look p ((p, m) :: cs) = some m := by unfold look; rw [if_pos rfl]
theorem put_hd {m m' : MO} : put p m' ((p, m) :: cs) = (p, m') :: cs := by unfold put; rw [if_pos rfl]
theorem del_hd {m : MO} : del p ((p, m) :: cs) = cs := by unfold del; rw [if_pos rfl]
theorem r_frz (h : we ρ cs (fun d cs1 => ∃ p xs, d = .opq (.ref p) ∧ look p cs1 = some (.lst xs) ∧ P (.lst xs) (del p cs1)) Z) : wFrz we ρ cs P Z := h
theorem r_frzH (h : P (.lst xs) cs) : ∃ q ys, D.opq (.ref p) = .opq (.ref q) ∧ look q ((p, MO.lst xs) :: cs) = some (.lst ys) ∧ P (.lst ys) (del q ((p, MO.lst xs) :: cs)) := ⟨p, xs, rfl, look_hd, by rw [del_hd]; exact h⟩
theorem r_appendH (hz : xs.length < 100000) (h : P .non ((p, .lst (xs ++ [d])) :: cs)) : oAppend (.opq (.ref p)) [d] ((p, .lst xs) :: cs) P := r_append look_hd hz (by rw [put_hd]; exact h)
theorem BagIn.cons {q : Addr} {m : MO} (h : BagIn p cs) (hq : q ∉ adr cs) : BagIn p ((q, m) :: cs) := by
  obtain ⟨b, e, hb⟩ := h
  refine ⟨b, ?_, hb⟩
  unfold look
  rw [if_neg fun z => hq ?_]
  · exact e
  · rw [z]; exact List.mem_map.mpr ⟨(p, b), look_mem e, rfl⟩
theorem r_isMH {R : Prop} (h : R) : isL (.opq (.ref p)) ((p, .lst xs) :: cs) ∧ R := r_isM look_hd h
theorem r_lstM (h : w ρ cs (fun ds cs1 => ∀ p, p ∉ adr cs1 → P (.opq (.ref p)) ((p, .lst ds) :: cs1)) Z) : wLstM w ρ cs P Z := h
theorem r_chain {o o' : DO2} (h : wa ρ cs (fun x cs1 => wb ρ cs1 (fun y cs2 => o x y cs2 fun z cs3 => match z with
  | .bl k => (k = true → wc ρ cs3 (fun u cs4 => o' y u cs4 P) Z) ∧ (k = false → P (.bl false) cs3)
  | _ => False) Z) Z) : wChain o o' wa wb wc ρ cs P Z := h
theorem r_par3 {i j l : Nat} (h : w ρ cs (fun ds cs1 => match ds with
  | [x, y, z] => f.nx (((ρ.set i (some x)).set j (some y)).set l (some z)) cs1
  | _ => False) (fun x cs1 => f.ex x ρ cs1)) : sPar3 i j l w f ρ cs := h
theorem r_callK {sp : DSp} (h : w ρ cs (fun ds cs1 => wk ρ cs1 (fun zs cs2 => sp (ds ++ zs) cs2 P Z) Z) Z) : wCallK sp w wk ρ cs P Z := h
theorem r_anyI {R : List D → Cs → Prop} (h : we ρ cs (fun d cs1 => match d with | .lst xs => R xs cs1 | .tup xs => R xs cs1 | _ => False) Z) : iAnyD we ρ cs R Z := h
theorem r_callD {sp : DSp} {dds : List D} (h : w ρ cs (fun ds cs1 => sp (ds ++ dds) cs1 P Z) Z) : wCall sp dds w ρ cs P Z := h
end
end DL
namespace DL
open PySem L2
structure Bx where
  l : Rat
  t : Rat
  w : Rat
  h : Rat
def Bx.d (b : Bx) : D := dB b.l b.t b.w b.h
structure Bx.Sz (b : Bx) (n : Nat) : Prop where
  l : DL.Sz n b.l
  t : DL.Sz n b.t
  w : DL.Sz n b.w
  h : DL.Sz n b.h
structure Bx.Pos (b : Bx) : Prop where
  w : 0 < b.w
  h : 0 < b.h
/-- weights that may be shared by -/
structure WOk (ws : List Int) : Prop where
  l0 : 1 ≤ ws.length
  l1 : ws.length ≤ 12
  pos : ∀ w ∈ ws, 1 ≤ w
  sum : ws.sum < 2 ^ 23
/-- weights as the package takes them -/
structure WtOk (ws : List Int) : Prop where
  l0 : 1 ≤ ws.length
  l1 : ws.length ≤ 12
  rg : ∀ w ∈ ws, 1 ≤ w ∧ w ≤ 400000
theorem sum_le {k : Int} : ∀ {ws : List Int}, (∀ w ∈ ws, w ≤ k) → ws.sum ≤ k * ws.length
  | [], _ => by simp
  | w :: ws, h => by
    have h1 := h w (List.mem_cons_self ..)
    have h2 := sum_le fun x hx => h x (List.mem_cons_of_mem _ hx)
    rw [List.sum_cons, List.length_cons, Int.natCast_add, Int.mul_add]
    omega
theorem len_le_sum : ∀ {ws : List Int}, (∀ w ∈ ws, 1 ≤ w) → (ws.length : Int) ≤ ws.sum
  | [], _ => by simp
  | w :: ws, h => by
    have h1 := h w (List.mem_cons_self ..)
    have h2 := len_le_sum fun x hx => h x (List.mem_cons_of_mem _ hx)
    rw [List.sum_cons, List.length_cons, Int.natCast_add]
    omega
theorem WtOk.wok {ws : List Int} (h : WtOk ws) : WOk ws := by
  refine ⟨h.l0, h.l1, fun w hw => (h.rg w hw).1, ?_⟩
  have := sum_le fun w hw => (h.rg w hw).2
  have := h.l1
  omega
theorem WOk.sum_pos {ws : List Int} (h : WOk ws) : 0 < ws.sum := by
  have := len_le_sum h.pos
  have := h.l0
  omega
def preS (ws : List Int) (i : Nat) : Int := (ws.take i).sum
theorem preS_succ {ws : List Int} {i : Nat} {w : Int} (h : ws[i]? = some w) : preS ws (i + 1) = preS ws i + w := by
  unfold preS
  rw [take_more h, List.sum_append]
  simp
theorem preS_zero (ws : List Int) : preS ws 0 = 0 := by simp [preS]
theorem preS_nonneg {ws : List Int} (h : ∀ w ∈ ws, 1 ≤ w) (i : Nat) : 0 ≤ preS ws i := by
  have := len_le_sum (ws := ws.take i) fun w hw => h w (List.mem_of_mem_take hw)
  unfold preS
  omega
theorem preS_le {ws : List Int} (h : ∀ w ∈ ws, 1 ≤ w) (i : Nat) : preS ws i ≤ ws.sum := by
  have h1 : (ws.take i ++ ws.drop i).sum = ws.sum := by rw [List.take_append_drop]
  have h2 := len_le_sum (ws := ws.drop i) fun w hw => h w (List.mem_of_mem_drop hw)
  rw [List.sum_append] at h1
  unfold preS
  omega
theorem mem_le_sum {ws : List Int} (h : ∀ w ∈ ws, 1 ≤ w) {i : Nat} {w : Int} (hw : ws[i]? = some w) : w ≤ ws.sum := by
  have h1 := preS_succ hw
  have h2 := preS_le h (i + 1)
  have h3 := preS_nonneg h i
  omega
theorem Sz.frac {a b : Int} (h0 : 0 ≤ a) (h1 : a < 2 ^ 23) (h2 : 0 < b) (h3 : b < 2 ^ 23) : Sz 23 (Rat.divInt a b) := Sz.divInt (n := 23) (by omega) (by omega) (by omega) (Nat.le_refl _)
theorem divInt_plus {a b c : Int} (h : c ≠ 0) : Rat.divInt (a + b) c = Rat.divInt a c + Rat.divInt b c := by
  rw [Rat.divInt_eq_div, Rat.divInt_eq_div, Rat.divInt_eq_div, Rat.intCast_add, Rat.div_def, Rat.div_def, Rat.div_def, Rat.add_mul]
/-- what stands at a share of a box, down or across -/
def cutB (b : Bx) (dn : Bool) (begin share : Rat) : Bx := if dn then ⟨b.l, b.t + b.h * begin, b.w, b.h * share⟩ else ⟨b.l + b.w * begin, b.t, b.w * share, b.h⟩
def splitAt_ (b : Bx) (ws : List Int) (dn : Bool) (i : Nat) : Bx := cutB b dn (Rat.divInt (preS ws i) ws.sum) (Rat.divInt (ws.getD i 0) ws.sum)
def splitB (b : Bx) (ws : List Int) (dn : Bool) : List Bx := (List.range ws.length).map (splitAt_ b ws dn)
def sideD (dn : Bool) : D := .str (if dn then "down" else "across")
theorem step_rat (x y : Rat) {p w c : Int} (h : c ≠ 0) : x + y * Rat.divInt p c + y * Rat.divInt w c = x + y * Rat.divInt (p + w) c := by
  rw [divInt_plus h, Rat.mul_add, Rat.add_assoc]
theorem get_map_int {ws : List Int} {i : Nat} {d : D} (h : (ws.map D.int)[i]? = some d) : ∃ w, ws[i]? = some w ∧ d = .int w := by
  rw [List.getElem?_map] at h
  cases e : ws[i]? with
  | none => rw [e] at h; cases h
  | some w => rw [e] at h; cases h; exact ⟨w, rfl, rfl⟩
theorem plD_Bx (b : Bx) {n : Nat} : plD (n + 2) b.d = true := by
  unfold Bx.d dB
  refine plD_tI ?_ (by show 4 ≤ 100000; decide)
  simp only [plL, plD_dR, Bool.and_self]
theorem plD_Bxs (bs : List Bx) (hl : bs.length ≤ 100000) {n : Nat} : plD (n + 3) (.lst (bs.map Bx.d)) = true := by
  refine plD_lI (plL_of fun d hd => ?_) (by rw [List.length_map]; exact hl)
  obtain ⟨b, _, rfl⟩ := List.mem_map.mp hd
  exact plD_Bx b
theorem plD_int (i : Int) {n : Nat} : plD n (.int i) = true := by cases n <;> rfl
theorem plL_ints (ws : List Int) {n : Nat} : plL n (ws.map D.int) = true := plL_of fun d hd => by
  obtain ⟨w, _, rfl⟩ := List.mem_map.mp hd
  exact plD_int w
theorem plD_ints (ws : List Int) (hl : ws.length ≤ 100000) {n : Nat} : plD (n + 1) (.lst (ws.map D.int)) = true := plD_lI (plL_ints ws) (by rw [List.length_map]; exact hl)
theorem plD_intsT (ws : List Int) (hl : ws.length ≤ 100000) {n : Nat} : plD (n + 1) (.tup (ws.map D.int)) = true := plD_tI (plL_ints ws) (by rw [List.length_map]; exact hl)
def wOkD : D → Bool
  | .int i => decide (1 ≤ i) && decide (i ≤ 400000)
  | _ => false
def wtsL (xs : List D) : Bool := (decide (1 ≤ xs.length) && decide (xs.length ≤ 12)) && xs.all wOkD
def weightsD : D → Bool
  | .lst xs => wtsL xs
  | .tup xs => wtsL xs
  | _ => false
theorem wtsL_ok {ws : List Int} (h : WtOk ws) : wtsL (ws.map D.int) = true := by
  unfold wtsL
  rw [List.length_map, decide_eq_true h.l0, decide_eq_true h.l1]
  simp only [Bool.true_and, List.all_eq_true]
  intro d hd
  obtain ⟨w, hw, rfl⟩ := List.mem_map.mp hd
  obtain ⟨h1, h2⟩ := h.rg w hw
  show (decide _ && decide _) = true
  rw [decide_eq_true h1, decide_eq_true h2]; rfl
theorem knL_ints : ∀ ws : List Int, knL (ws.map D.int) = true
  | [] => rfl
  | w :: ws => by rw [List.map_cons]; simp only [knL, knL_ints ws, knD, Bool.and_self]
theorem szlt {a : Int} (h0 : 0 < a) (h1 : a < 2 ^ 23) : a.natAbs < 2 ^ 9000 := by
  have h : a.natAbs < 2 ^ 23 := by omega
  exact Nat.lt_of_lt_of_le h (Nat.pow_le_pow_right (by decide) (by decide))
section
variable {cs : Cs} {P : DP} {dn : Bool}
theorem r_eqDn (h : P (.bl dn) cs) : oEq (sideD dn) (.str "down") cs P := ⟨rfl, rfl, by
  cases dn
  · rw [show eqD (sideD false) (.str "down") = false by decide]; exact h
  · rw [show eqD (sideD true) (.str "down") = true by decide]; exact h⟩
theorem r_eqAc (h : P (.bl (!dn)) cs) : oEq (sideD dn) (.str "across") cs P := ⟨rfl, rfl, by
  cases dn
  · rw [show eqD (sideD false) (.str "across") = true by decide]; exact h
  · rw [show eqD (sideD true) (.str "across") = false by decide]; exact h⟩
end
def edgeAt (a b : Rat) (ws : List Int) (i : Nat) : Rat := a + b * Rat.divInt (preS ws i) ws.sum
theorem divInt_pos' {a b : Int} (ha : 0 < a) (hb : 0 < b) : 0 < Rat.divInt a b := by
  rw [Rat.divInt_eq_div]
  rw [Rat.div_def]
  exact Rat.mul_pos (Rat.intCast_pos.mpr ha) (Rat.inv_pos.mpr (Rat.intCast_pos.mpr hb))
theorem splitAt_down {b : Bx} {ws : List Int} {i : Nat} {w : Int} (hw : ws[i]? = some w) : splitAt_ b ws true i = ⟨b.l, edgeAt b.t b.h ws i, b.w, b.h * Rat.divInt w ws.sum⟩ := by
  unfold splitAt_ cutB edgeAt
  rw [List.getD_eq_getElem?_getD, hw]; rfl
theorem splitAt_across {b : Bx} {ws : List Int} {i : Nat} {w : Int} (hw : ws[i]? = some w) : splitAt_ b ws false i = ⟨edgeAt b.l b.w ws i, b.t, b.w * Rat.divInt w ws.sum, b.h⟩ := by
  unfold splitAt_ cutB edgeAt
  rw [List.getD_eq_getElem?_getD, hw]; rfl
theorem splitAt_pos {b : Bx} {ws : List Int} (hp : b.Pos) (hw : WOk ws) (dn : Bool) {i : Nat} {w : Int} (e : ws[i]? = some w) : (splitAt_ b ws dn i).Pos := by
  have h1 := hw.pos w (List.mem_of_getElem? e)
  have h2 := divInt_pos' (a := w) (b := ws.sum) (by omega) hw.sum_pos
  cases dn with
  | true => rw [splitAt_down e]; exact ⟨hp.w, Rat.mul_pos hp.h h2⟩
  | false => rw [splitAt_across e]; exact ⟨Rat.mul_pos hp.w h2, hp.h⟩
theorem Bx.Sz.mono {b : Bx} {n m : Nat} (h : b.Sz n) (l : n ≤ m) : b.Sz m := ⟨h.l.mono l, h.t.mono l, h.w.mono l, h.h.mono l⟩
section
variable {cs : Cs} {P : DP} {b : Bx}
theorem r_ixB0 (h : P (dR b.l) cs) : oIx b.d (.int 0) cs P := h
theorem r_ixB1 (h : P (dR b.t) cs) : oIx b.d (.int 1) cs P := h
theorem r_ixB2 (h : P (dR b.w) cs) : oIx b.d (.int 2) cs P := h
theorem r_ixB3 (h : P (dR b.h) cs) : oIx b.d (.int 3) cs P := h
end
end DL
namespace DL
open PySem PySem.Spec PyProof.Rows L2
section
variable {X : Cx} {W : WX} {K : PySem.W.Frag} {σ : L2.St} {H : Hp}
/-- the end of a comprehension -/
abbrev CEnd (K : PySem.W.Frag) (F G : Hp) (R : List D → Cs → Prop) (Q : VK) : Prop := ∀ H2 cs2 D vacc acc, F D = none → Sta K (upd F D (.lst vacc)) G cs2 H2 → RepL K (pur (upd F D (.lst vacc)) cs2 H2) vacc acc → R acc cs2 → Q (.ref D) H2
theorem cend_data {F G : Hp} {P : DP} {Q : VK} (pe : PostE K F G P Q) : CEnd K F G (fun ds cs2 => P (.lst ds) cs2) Q := fun H2 cs2 D vacc acc hF s ra h => by
  obtain ⟨s3, g3, e3⟩ := s.back hF
  exact pe H2 cs2 _ _ s3 (.lst (SqL.of e3) (ra.mono g3)) h
theorem CEnd.le {F G G' : Hp} {R : List D → Cs → Prop} {Q : VK} (h : CEnd K F G R Q) (e : Ex G G') : CEnd K F G' R Q := fun H2 cs2 D vacc acc hF s => h H2 cs2 D vacc acc hF (s.from_ e)
def wCompR (wi : WI) (g : WG) (wt : WT) (we : DL.WE) (vs : List Nat) (R : DP → List D → Cs → Prop) : DL.WE := fun ρ cs P Z => wi ρ cs (fun xs cs1 => xs.length ≤ 100000 ∧ compW g wt we xs (wipeD ρ vs) cs1 [] (R P)) Z
abbrev RD : DP → List D → Cs → Prop := fun P ds cs2 => P (.lst ds) cs2
def compW2 (g : WG) (wt : WT) (wi1 : WI) (g1 : WG) (wt1 : WT) (we : DL.WE) (vs1 : List Nat) : List D → DL.Env → Cs → List D → (List D → Cs → Prop) → Prop
  | [], _, cs, acc, P => P acc cs
  | d :: r, ρ, cs, acc, P => g d ρ fun ρ1 => wt ρ1 cs (fun k cs1 => (k = true → wi1 ρ1 cs1 (fun xs cs2 => acc.length + xs.length ≤ 100000 ∧ compW g1 wt1 we xs (wipeD ρ1 vs1) cs2 acc (fun acc' cs3 => compW2 g wt wi1 g1 wt1 we vs1 r ρ cs3 acc' P)) Z0) ∧ (k = false → compW2 g wt wi1 g1 wt1 we vs1 r ρ cs1 acc P)) Z0
def wComp2 (wi : WI) (g : WG) (wt : WT) (wi1 : WI) (g1 : WG) (wt1 : WT) (we : DL.WE) (vs vs1 : List Nat) (R : DP → List D → Cs → Prop) : DL.WE := fun ρ cs P Z => wi ρ cs (fun xs cs1 => compW2 g wt wi1 g1 wt1 we vs1 xs (wipeD ρ vs) cs1 [] (R P)) Z
theorem lc2_ok {wi wi1 : WI} {g g1 : TG} {gd gd1 : WG} {wt wt1 : WT} {we : DL.WE} {vs vs1 : List Nat} {R : DP → List D → Cs → Prop} (gk : GOk K g gd vs) (gk1 : GOk K g1 gd1 vs1) (hR : ∀ F G P Q, PostE K F G P Q → CEnd K F G (R P) Q) {Q : VK} :
    lE K W (wComp2 wi gd wt wi1 gd1 wt1 we vs vs1 R) σ H Q → tLc2 (lI K W wi) g (lT K W0 wt) (lI K W0 wi1) g1 (lT K W0 wt1) (lE K W0 we) vs vs1 σ H Q := by
  rintro ⟨F, cs, ρ, P, Z, s, re, hw, pe, px⟩
  have pc := hR F _ P Q pe
  refine ⟨F, cs, ρ, _, Z, s, re, hw, fun H1 cs1 J xs s1 yi h1 => ?_, px⟩
  intro D hD
  have hFD : F D = none := s1.fr.back hD
  have reW : RepE K (pur F cs1 H1) (L2.wipe σ vs) (wipeD ρ vs) := (re.mono s1.gr).wipe vs
  refine ⟨fun i m H' => i ≤ xs.length ∧ m = xs.length - i ∧ ∃ cs' acc vacc, Sta K (upd F D (.lst vacc)) (pur F cs1 H1) cs' H' ∧ RepL K (pur (upd F D (.lst vacc)) cs' H') vacc acc ∧ compW2 gd wt wi1 gd1 wt1 we vs1 (xs.drop i) (wipeD ρ vs) cs' acc (R P),
    ⟨xs.length, Nat.zero_le _, rfl, cs1, [], [], s1.aside hD, .nil, h1⟩, ?_⟩
  rintro i m H2 ⟨hi, rfl, cs2, acc, vacc, s2, ra, h2⟩
  cases e : xs.drop i with
  | nil =>
    have hl : xs.length ≤ i := by
      have z := congrArg List.length e
      rw [List.length_drop] at z
      have z' : xs.length - i = 0 := z
      omega
    have hie : i = xs.length := by omega
    rw [e] at h2
    exact .inl ⟨by rw [hie]; exact yi.stop _ cs2 H2 s2, pc H2 cs2 D vacc acc hFD (s2.from_ s1.gr) ra h2⟩
  | cons d r =>
    obtain ⟨e1, e2⟩ := drop_cons e
    have hlt : i < xs.length := (List.getElem?_eq_some_iff.mp e1).1
    rw [e] at h2
    refine .inr ⟨yi.go i d e1 _ cs2 H2 s2, fun H' => ∃ cs' acc vacc, Sta K (upd F D (.lst vacc)) (pur F cs1 H1) cs' H' ∧ RepL K (pur (upd F D (.lst vacc)) cs' H') vacc acc ∧ compW2 gd wt wi1 gd1 wt1 we vs1 r (wipeD ρ vs) cs' acc (R P), ?_, ?_⟩
    · rintro H' ⟨cs', acc', vacc', s', ra', h'⟩
      exact ⟨xs.length - (i + 1), by omega, by omega, rfl, cs', acc', vacc', s', ra', by rw [e2]; exact h'⟩
    · intro x H3 hy
      obtain ⟨s3, r3⟩ := yi.yld i d e1 _ cs2 H2 x H3 s2 hy
      refine gk _ cs2 H3 _ (wipeD ρ vs) x d _ _ s3.self (reW.mono (s2.gr.trans s3.gr)) r3 wipe_wipe h2 fun σ4 ρ4 hw4 re4 h4 => ⟨hw4.trans rfl, ?_⟩
      refine ⟨_, cs2, ρ4, _, Z0, s3.self, re4, h4, fun H5 cs5 k s5 h5 => ?_, fun _ _ _ _ _ _ z => z⟩
      cases k with
      | false => exact iteF ⟨cs5, acc, vacc, s5.from_ (s2.gr.trans s3.gr), ra.mono (s3.gr.trans s5.gr), h5.2 rfl⟩
      | true =>
        refine iteT ⟨_, cs5, ρ4, _, Z0, s5.self, re4.mono s5.gr, h5.1 rfl, fun H6 cs6 J1 ys s6 yi1 h6 => ?_, fun _ _ _ _ _ _ z => z⟩
        obtain ⟨hly, h6⟩ := h6
        have g6 := (s2.gr.trans s3.gr).trans (s5.gr.trans s6.gr)
        have reV : RepE K (pur (upd F D (.lst vacc)) cs6 H6) (L2.wipe σ4 vs1) (wipeD ρ4 vs1) := (re4.mono (s5.gr.trans s6.gr)).wipe vs1
        refine ⟨fun j k H' => j ≤ ys.length ∧ k = ys.length - j ∧ ∃ cs' acc' vacc', Sta K (upd F D (.lst vacc')) (pur (upd F D (.lst vacc)) cs6 H6) cs' H' ∧ RepL K (pur (upd F D (.lst vacc')) cs' H') vacc' acc' ∧ acc'.length ≤ acc.length + j ∧ compW gd1 wt1 we (ys.drop j) (wipeD ρ4 vs1) cs' acc' (fun acc' cs3 => compW2 gd wt wi1 gd1 wt1 we vs1 r (wipeD ρ vs) cs3 acc' (R P)),
          ⟨ys.length, Nat.zero_le _, rfl, cs6, acc, vacc, s6.self, ra.mono (s3.gr.trans (s5.gr.trans s6.gr)), Nat.le_refl _, h6⟩, ?_⟩
        rintro j k H7 ⟨hj, rfl, cs7, acc7, vacc7, s7, ra7, hla, h7⟩
        cases f : ys.drop j with
        | nil =>
          have hl : ys.length ≤ j := by
            have z := congrArg List.length f
            rw [List.length_drop] at z
            have z' : ys.length - j = 0 := z
            omega
          have hie : j = ys.length := by omega
          rw [f] at h7
          exact .inl ⟨by rw [hie]; exact yi1.stop _ cs7 H7 s7, cs7, acc7, vacc7, s7.from_ g6, ra7, h7⟩
        | cons d1 r1 =>
          obtain ⟨f1, f2⟩ := drop_cons f
          have hlt1 : j < ys.length := (List.getElem?_eq_some_iff.mp f1).1
          rw [f] at h7
          refine .inr ⟨yi1.go j d1 f1 _ cs7 H7 s7, fun H' => ∃ cs' acc' vacc', Sta K (upd F D (.lst vacc')) (pur (upd F D (.lst vacc)) cs6 H6) cs' H' ∧ RepL K (pur (upd F D (.lst vacc')) cs' H') vacc' acc' ∧ acc'.length ≤ acc.length + (j + 1) ∧ compW gd1 wt1 we r1 (wipeD ρ4 vs1) cs' acc' (fun acc' cs3 => compW2 gd wt wi1 gd1 wt1 we vs1 r (wipeD ρ vs) cs3 acc' (R P)), ?_, ?_⟩
          · rintro H' ⟨cs', acc', vacc', s', ra', hl', h'⟩
            exact ⟨ys.length - (j + 1), by omega, by omega, rfl, cs', acc', vacc', s', ra', hl', by rw [f2]; exact h'⟩
          · intro x1 H8 hy1
            obtain ⟨s8, r8⟩ := yi1.yld j d1 f1 _ cs7 H7 x1 H8 s7 hy1
            refine gk1 _ cs7 H8 _ (wipeD ρ4 vs1) x1 d1 _ _ s8.self (reV.mono (s7.gr.trans s8.gr)) r8 wipe_wipe h7 fun σ9 ρ9 hw9 re9 h9 => ⟨hw9.trans rfl, ?_⟩
            refine ⟨_, cs7, ρ9, _, Z0, s8.self, re9, h9, fun Ha csa k sa ha => ?_, fun _ _ _ _ _ _ z => z⟩
            cases k with
            | false => exact iteF ⟨csa, acc7, vacc7, sa.from_ (s7.gr.trans s8.gr), ra7.mono (s8.gr.trans sa.gr), Nat.le_succ_of_le hla, ha.2 rfl⟩
            | true =>
              refine iteT ⟨_, csa, ρ9, _, Z0, sa.self, re9.mono sa.gr, ha.1 rfl, fun Hb csb y dy sb rb hb => ?_, fun _ _ _ _ _ _ z => z⟩
              have sc := (sb.from_ ((s7.gr.trans s8.gr).trans sa.gr))
              obtain ⟨sd, ed⟩ := sc.turn (o' := .lst (vacc7 ++ [y])) hFD
              refine ⟨vacc7, sb.fr D _ upd_same, ?_, csb, acc7 ++ [dy], vacc7 ++ [y], sd, ?_, by rw [List.length_append]; exact Nat.succ_le_succ hla, hb⟩
              · rw [ra7.length]; exact Nat.lt_of_le_of_lt (Nat.le_trans hla (Nat.le_trans (Nat.add_le_add_left hj _) hly)) (by decide)
              · rw [ed]
                exact (ra7.mono (s8.gr.trans (sa.gr.trans sb.gr))).append (.cons rb .nil)
variable {elt tg iter tg1 iter1 : Expr} {ifs ifs1 : List Expr} {scope : Scope} {own : List (Str × Nat)} {vs1 : List Nat} {pos : Pos} {wi wi1 : WI} {g g1 : TG} {gd gd1 : WG} {wt wt1 : WT} {we : DL.WE}
theorem ds_setLc2 {i : Nat} {y : Str} {py spos : Pos} (R : DP → List D → Cs → Prop) (hR : ∀ F G P Q, PostE X.K F G P Q → CEnd X.K F G (R P) Q) (hc : X.calm = true) (hN : X.N.Nodup) (hy : X.N[i]? = some y) (hyl : X.env.scope.names.lookup y = some .local)
    (hsw : swapsWith (.ListComp elt [⟨tg, iter, ifs, 0⟩, ⟨tg1, iter1, ifs1, 0⟩] scope pos) (some (.Name y py)) spos.line X.env = pure true) (hi : DI X W tg iter wi) (ok : BlkOk X.N X.env.scope scope own) (hv : ∀ i ∈ vs1, i ∈ own.map (·.2)) (gk : GOk X.K g gd (own.map (·.2))) (gk1 : GOk X.K g1 gd1 vs1)
    (hg : ∀ (s : Shared) (H : Hp) (C : Addr) (cl : List (Str × Addr)) (fp : List Addr), PG (X.blk s H scope (compEnvC scope cl C X.env) fp) tg g)
    (ht : ∀ (s : Shared) (H : Hp) (C : Addr) (cl : List (Str × Addr)) (fp : List Addr), PTs (X.blk s H scope (compEnvC scope cl C X.env) fp) ifs (lT X.K W0 wt))
    (hi1 : ∀ (s : Shared) (H : Hp) (C : Addr) (cl : List (Str × Addr)) (fp : List Addr), DI (X.blk s H scope (compEnvC scope cl C X.env) fp) W0 tg1 iter1 wi1)
    (hg1 : ∀ (s : Shared) (H : Hp) (C : Addr) (cl : List (Str × Addr)) (fp : List Addr), PG (X.blk s H scope (compEnvC scope cl C X.env) fp) tg1 g1)
    (ht1 : ∀ (s : Shared) (H : Hp) (C : Addr) (cl : List (Str × Addr)) (fp : List Addr), PTs (X.blk s H scope (compEnvC scope cl C X.env) fp) ifs1 (lT X.K W0 wt1))
    (he : ∀ (s : Shared) (H : Hp) (C : Addr) (cl : List (Str × Addr)) (fp : List Addr), DE (X.blk s H scope (compEnvC scope cl C X.env) fp) W0 elt we) (hs : ∀ x, foldedSetIterable iter X.env x = pure x := by intro _; rfl) (hs1 : ∀ env x, foldedSetIterable iter1 env x = pure x := by intro _ _; rfl) :
    DS X W (.Assign [.Name y py] (.ListComp elt [⟨tg, iter, ifs, 0⟩, ⟨tg1, iter1, ifs1, 0⟩] scope pos) spos) (sAsg (wComp2 wi gd wt wi1 gd1 wt1 we (own.map (·.2)) vs1 R) (gN i)) :=
  PS.imp (ps_setLc2 hc hN hy hyl hsw hi ok hv hg ht hi1 hg1 ht1 he hs hs1) fun E σ H h => by
    obtain ⟨F, cs, ρ, f, s, re, hw, pe⟩ := h
    have h2 : lE X.K W (wComp2 wi gd wt wi1 gd1 wt1 we (own.map (·.2)) vs1 R) σ H (fun x H1 => gName i x σ H1 E.nx) := ⟨F, cs, ρ, _, _, s, re, hw, fun H1 cs1 v d s1 r1 h1 => pe.nx H1 cs1 _ _ s1 ((re.mono s1.gr).set r1 i) h1, pe.px re⟩
    exact lc2_ok gk gk1 hR h2
end
section
variable {ρ : DL.Env} {cs : Cs} {P : DP} {Z : XZ} {we : DL.WE} {wt wt1 : WT}
theorem r_compM_ {wi : WI} {g : WG} {vs : List Nat} {R : DP → List D → Cs → Prop} (h : wi ρ cs (fun xs cs1 => xs.length ≤ 100000 ∧ compW g wt we xs (wipeD ρ vs) cs1 [] (R P)) Z) : wCompR wi g wt we vs R ρ cs P Z := h
theorem r_comp2 {wi wi1 : WI} {g g1 : WG} {vs vs1 : List Nat} {R : DP → List D → Cs → Prop} (h : wi ρ cs (fun xs cs1 => compW2 g wt wi1 g1 wt1 we vs1 xs (wipeD ρ vs) cs1 [] (R P)) Z) : wComp2 wi g wt wi1 g1 wt1 we vs vs1 R ρ cs P Z := h
/-- two generators, by an invariant of the outer one -/
theorem r_comp2I {wi1 : WI} {g g1 : WG} {vs1 : List Nat} {R : List D → Cs → Prop} (I : Nat → List D → Cs → Prop) : ∀ (xs acc : List D) (k : Nat) {cs : Cs}, I k acc cs →
    (∀ i d acc cs (N : List D → Cs → Prop), xs[i]? = some d → I (k + i) acc cs → (∀ acc' cs', I (k + i + 1) acc' cs' → N acc' cs') → g d ρ fun ρ1 => wt ρ1 cs (fun b cs1 => (b = true → wi1 ρ1 cs1 (fun xs cs2 => acc.length + xs.length ≤ 100000 ∧ compW g1 wt1 we xs (wipeD ρ1 vs1) cs2 acc N) Z0) ∧ (b = false → N acc cs1)) Z0) →
    (∀ acc cs, I (k + xs.length) acc cs → R acc cs) → compW2 g wt wi1 g1 wt1 we vs1 xs ρ cs acc R
  | [], acc, k, cs, h0, hs, hd => hd acc cs h0
  | d :: r, acc, k, cs, h0, hs, hd => by
    refine hs 0 d acc cs (fun acc' cs' => compW2 g wt wi1 g1 wt1 we vs1 r ρ cs' acc' R) rfl h0 fun acc' cs' h1 => r_comp2I I r acc' (k + 1) h1 (fun i d acc cs N e hi hn => ?_) (fun acc cs h => ?_)
    · have e1 : k + (i + 1) = k + 1 + i := by omega
      refine hs (i + 1) d acc cs N e (by rw [e1]; exact hi) fun acc' cs' hh => hn acc' cs' (by rw [← e1]; exact hh)
    · refine hd acc cs ?_
      have e1 : k + (d :: r).length = k + 1 + r.length := by rw [List.length_cons]; omega
      rw [e1]; exact h
end
end DL
namespace DL
open PySem PySem.Spec PyProof.Rows L2
section
variable {p : Prop} [Decidable p] {A B : Prop} {k : Bool}
theorem r_isT (hk : k = true) (h : A) : (k = true → A) ∧ (k = false → B) := ⟨fun _ => h, fun z => absurd (hk.symm.trans z) (by decide)⟩
theorem r_isF (hk : k = false) (h : B) : (k = true → A) ∧ (k = false → B) := ⟨fun z => absurd (hk.symm.trans z) (by decide), fun _ => h⟩
theorem r_pos (hp : p) (h : A) : (decide p = true → A) ∧ (decide p = false → B) := r_isT (decide_eq_true hp) h
theorem r_neg_ (hp : ¬ p) (h : B) : (decide p = true → A) ∧ (decide p = false → B) := r_isF (decide_eq_false hp) h
theorem r_npos (hp : p) (h : B) : ((!decide p) = true → A) ∧ ((!decide p) = false → B) := r_isF (by rw [decide_eq_true hp]; rfl) h
theorem r_nneg (hp : ¬ p) (h : A) : ((!decide p) = true → A) ∧ ((!decide p) = false → B) := r_isT (by rw [decide_eq_false hp]; rfl) h
end
theorem r_app11 {sp : DSp} {x0 y0 : D} {cs : Cs} {P : DP} {Z : XZ} (h : sp [x0, y0] cs P Z) : sp ([x0] ++ [y0]) cs P Z := h
theorem r_app12 {sp : DSp} {x0 y0 y1 : D} {cs : Cs} {P : DP} {Z : XZ} (h : sp [x0, y0, y1] cs P Z) : sp ([x0] ++ [y0, y1]) cs P Z := h
theorem r_app21 {sp : DSp} {x0 x1 y0 : D} {cs : Cs} {P : DP} {Z : XZ} (h : sp [x0, x1, y0] cs P Z) : sp ([x0, x1] ++ [y0]) cs P Z := h
theorem r_app22 {sp : DSp} {x0 x1 y0 y1 : D} {cs : Cs} {P : DP} {Z : XZ} (h : sp [x0, x1, y0, y1] cs P Z) : sp ([x0, x1] ++ [y0, y1]) cs P Z := h
theorem r_app31 {sp : DSp} {x0 x1 x2 y0 : D} {cs : Cs} {P : DP} {Z : XZ} (h : sp [x0, x1, x2, y0] cs P Z) : sp ([x0, x1, x2] ++ [y0]) cs P Z := h
theorem r_app32 {sp : DSp} {x0 x1 x2 y0 y1 : D} {cs : Cs} {P : DP} {Z : XZ} (h : sp [x0, x1, x2, y0, y1] cs P Z) : sp ([x0, x1, x2] ++ [y0, y1]) cs P Z := h
theorem r_app41 {sp : DSp} {x0 x1 x2 x3 y0 : D} {cs : Cs} {P : DP} {Z : XZ} (h : sp [x0, x1, x2, x3, y0] cs P Z) : sp ([x0, x1, x2, x3] ++ [y0]) cs P Z := h
theorem r_app42 {sp : DSp} {x0 x1 x2 x3 y0 y1 : D} {cs : Cs} {P : DP} {Z : XZ} (h : sp [x0, x1, x2, x3, y0, y1] cs P Z) : sp ([x0, x1, x2, x3] ++ [y0, y1]) cs P Z := h
theorem r_app51 {sp : DSp} {x0 x1 x2 x3 x4 y0 : D} {cs : Cs} {P : DP} {Z : XZ} (h : sp [x0, x1, x2, x3, x4, y0] cs P Z) : sp ([x0, x1, x2, x3, x4] ++ [y0]) cs P Z := h
theorem r_app52 {sp : DSp} {x0 x1 x2 x3 x4 y0 y1 : D} {cs : Cs} {P : DP} {Z : XZ} (h : sp [x0, x1, x2, x3, x4, y0, y1] cs P Z) : sp ([x0, x1, x2, x3, x4] ++ [y0, y1]) cs P Z := h
theorem r_dn1 {sp : DSp} {x0 : D} {cs : Cs} {P : DP} {Z : XZ} (h : sp [x0, sideD true] cs P Z) : sp [x0, .str "down"] cs P Z := h
theorem r_ac1 {sp : DSp} {x0 : D} {cs : Cs} {P : DP} {Z : XZ} (h : sp [x0, sideD false] cs P Z) : sp [x0, .str "across"] cs P Z := h
theorem r_dn2 {sp : DSp} {x0 x1 : D} {cs : Cs} {P : DP} {Z : XZ} (h : sp [x0, x1, sideD true] cs P Z) : sp [x0, x1, .str "down"] cs P Z := h
theorem r_ac2 {sp : DSp} {x0 x1 : D} {cs : Cs} {P : DP} {Z : XZ} (h : sp [x0, x1, sideD false] cs P Z) : sp [x0, x1, .str "across"] cs P Z := h
theorem r_dn3 {sp : DSp} {x0 x1 x2 : D} {cs : Cs} {P : DP} {Z : XZ} (h : sp [x0, x1, x2, sideD true] cs P Z) : sp [x0, x1, x2, .str "down"] cs P Z := h
theorem r_ac3 {sp : DSp} {x0 x1 x2 : D} {cs : Cs} {P : DP} {Z : XZ} (h : sp [x0, x1, x2, sideD false] cs P Z) : sp [x0, x1, x2, .str "across"] cs P Z := h
theorem r_dn4 {sp : DSp} {x0 x1 x2 x3 : D} {cs : Cs} {P : DP} {Z : XZ} (h : sp [x0, x1, x2, x3, sideD true] cs P Z) : sp [x0, x1, x2, x3, .str "down"] cs P Z := h
theorem r_ac4 {sp : DSp} {x0 x1 x2 x3 : D} {cs : Cs} {P : DP} {Z : XZ} (h : sp [x0, x1, x2, x3, sideD false] cs P Z) : sp [x0, x1, x2, x3, .str "across"] cs P Z := h
theorem r_dn5 {sp : DSp} {x0 x1 x2 x3 x4 : D} {cs : Cs} {P : DP} {Z : XZ} (h : sp [x0, x1, x2, x3, x4, sideD true] cs P Z) : sp [x0, x1, x2, x3, x4, .str "down"] cs P Z := h
theorem r_ac5 {sp : DSp} {x0 x1 x2 x3 x4 : D} {cs : Cs} {P : DP} {Z : XZ} (h : sp [x0, x1, x2, x3, x4, sideD false] cs P Z) : sp [x0, x1, x2, x3, x4, .str "across"] cs P Z := h
section
variable {ρ : DL.Env} {cs : Cs} {wa wb we wo wi wv : DL.WE} {w : WA} {ta : WT} {u v : WS} {i j l : Nat} {nx bk ct : DL.Env → Cs → Prop} {rt : D → Cs → Prop} {ex : Exn → DL.Env → Cs → Prop}
theorem q_sif (h : ta ρ cs (fun k cs1 => (k = true → u ⟨nx, rt, ex, bk, ct⟩ ρ cs1) ∧ (k = false → v ⟨nx, rt, ex, bk, ct⟩ ρ cs1)) (fun x cs1 => ex x ρ cs1)) : sIf ta u v ⟨nx, rt, ex, bk, ct⟩ ρ cs := h
theorem q_set (h : we ρ cs (fun d cs1 => nx (ρ.set i (some d)) cs1) (fun x cs1 => ex x ρ cs1)) : sAsg we (gN i) ⟨nx, rt, ex, bk, ct⟩ ρ cs := h
theorem q_asg {g : WG} (h : we ρ cs (fun d cs1 => g d ρ fun ρ' => nx ρ' cs1) (fun x cs1 => ex x ρ cs1)) : sAsg we g ⟨nx, rt, ex, bk, ct⟩ ρ cs := h
theorem q_ret (h : we ρ cs rt (fun x cs1 => ex x ρ cs1)) : sRet we ⟨nx, rt, ex, bk, ct⟩ ρ cs := h
theorem q_retN (h : rt .non cs) : sRetN ⟨nx, rt, ex, bk, ct⟩ ρ cs := h
theorem q_drop (h : we ρ cs (fun _ cs1 => nx ρ cs1) (fun x cs1 => ex x ρ cs1)) : sDrop we ⟨nx, rt, ex, bk, ct⟩ ρ cs := h
theorem q_next (h : nx ρ cs) : sNext ⟨nx, rt, ex, bk, ct⟩ ρ cs := h
theorem q_brk (h : bk ρ cs) : sBreak ⟨nx, rt, ex, bk, ct⟩ ρ cs := h
theorem q_ct (h : ct ρ cs) : sCont ⟨nx, rt, ex, bk, ct⟩ ρ cs := h
theorem q_par (h : wa ρ cs (fun x cs1 => wb ρ cs1 (fun y cs2 => nx ((ρ.set i (some x)).set j (some y)) cs2) (fun x cs1 => ex x ρ cs1)) (fun x cs1 => ex x ρ cs1)) : sPar i j (wCons wa (wCons wb wNil)) ⟨nx, rt, ex, bk, ct⟩ ρ cs := h
theorem q_setix (h : wv ρ cs (fun v cs1 => wo ρ cs1 (fun x cs2 => wi ρ cs2 (fun i cs3 => oSetL x i v cs3 fun cs4 => nx ρ cs4) (fun x cs1 => ex x ρ cs1)) (fun x cs1 => ex x ρ cs1)) (fun x cs1 => ex x ρ cs1)) : sSetIx wv wo wi oSetL ⟨nx, rt, ex, bk, ct⟩ ρ cs := h
theorem q_aug {o : DO2} {x : D} (hi : ρ[i]? = some (some x)) (h : we ρ cs (fun y cs1 => o x y cs1 fun z cs2 => nx (ρ.set i (some z)) cs2) (fun x cs1 => ex x ρ cs1)) : sAug i o we ⟨nx, rt, ex, bk, ct⟩ ρ cs := r_aug hi h
theorem q_for {wi : WI} {g : WG} (h : wi ρ cs (fun xs cs1 => loopW g u ⟨nx, rt, ex, bk, ct⟩ xs ρ cs1) (fun x cs1 => ex x ρ cs1)) : sFor wi g u ⟨nx, rt, ex, bk, ct⟩ ρ cs := h
theorem q_par3 (h : w ρ cs (fun ds cs1 => match ds with
  | [x, y, z] => nx (((ρ.set i (some x)).set j (some y)).set l (some z)) cs1
  | _ => False) (fun x cs1 => ex x ρ cs1)) : sPar3 i j l w ⟨nx, rt, ex, bk, ct⟩ ρ cs := h
end
section
variable {ρ : DL.Env} {cs : Cs} {P : DP} {Z : XZ} {x y z : D} {ds : List D}
theorem g_s {u : WS} {f : Fin} (h : u f ρ cs) : u f ρ cs := h
theorem g_e {u : DL.WE} (h : u ρ cs P Z) : u ρ cs P Z := h
theorem g_t {u : WT} {Q : Bool → Cs → Prop} (h : u ρ cs Q Z) : u ρ cs Q Z := h
theorem g_a {u : WA} {Q : List D → Cs → Prop} (h : u ρ cs Q Z) : u ρ cs Q Z := h
theorem g_o {u : WO} {Q : Option Int → Cs → Prop} (h : u ρ cs Q Z) : u ρ cs Q Z := h
theorem g_2 {o : DO2} (h : o x y cs P) : o x y cs P := h
theorem g_n {o : DOn} (h : o ds cs P) : o ds cs P := h
theorem g_p {o : DSp} (h : o ds cs P Z) : o ds cs P Z := h
theorem g_m {o : DMt} (h : o x ds cs P) : o x ds cs P := h
theorem g_g {g : WG} {k : DL.Env → Prop} (h : g x ρ k) : g x ρ k := h
theorem g_gs {g : WGs} {k : DL.Env → Prop} (h : g ds ρ k) : g ds ρ k := h
theorem g_w {o : DSet} {k : Cs → Prop} (h : o x y z cs k) : o x y z cs k := h
theorem g_c {A B : Prop} (h : A ∧ B) : A ∧ B := h
end
section
variable {α : Type} {ρ : DL.Env} {cs : Cs} {we : DL.WE} {wt : WT}
theorem r_loopL {nx bk ct : DL.Env → Cs → Prop} {rt : D → Cs → Prop} {ex : Exn → DL.Env → Cs → Prop} {gd : WG} {wb : WS} (I : Nat → DL.Env → Cs → Prop) {l : List α} {g : α → D} (h0 : I 0 ρ cs)
    (hs : ∀ i a ρ cs (N : DL.Env → Cs → Prop), l[i]? = some a → I i ρ cs → (∀ ρ' cs', I (i + 1) ρ' cs' → N ρ' cs') → gd (g a) ρ fun ρ1 => wb ⟨N, rt, ex, nx, N⟩ ρ1 cs)
    (hd : ∀ ρ cs, I l.length ρ cs → nx ρ cs) : loopW gd wb ⟨nx, rt, ex, bk, ct⟩ (l.map g) ρ cs := by
  refine r_loop0 I h0 (fun i d ρ cs N e hi hN => ?_) (fun ρ cs h => hd ρ cs (by rw [List.length_map] at h; exact h))
  rw [List.getElem?_map] at e
  obtain ⟨a, e1, rfl⟩ := Option.map_eq_some_iff.mp e
  exact hs i a ρ cs N e1 hi hN
theorem r_cfm {gd : WG} {R : List D → Cs → Prop} {l : List α} {g : α → D} (p : α → Bool) (f : α → D)
    (hs : ∀ a (N : DP) (N' : Cs → Prop), a ∈ l → (p a = true → N (f a) cs) → (p a = false → N' cs) → gd (g a) ρ fun ρ1 => wt ρ1 cs (fun b cs1 => (b = true → we ρ1 cs1 N Z0) ∧ (b = false → N' cs1)) Z0)
    (hd : R ((l.filter p).map f) cs) : compW gd wt we (l.map g) ρ cs [] R := by
  refine r_comp0 (fun i acc cs' => acc = ((l.take i).filter p).map f ∧ cs' = cs) ⟨rfl, rfl⟩ ?_ ?_
  · rintro i d acc cs' N e ⟨rfl, rfl⟩ hN
    rw [List.getElem?_map] at e
    obtain ⟨a, e1, rfl⟩ := Option.map_eq_some_iff.mp e
    refine hs a _ _ (List.mem_of_getElem? e1) (fun h => hN _ _ ⟨?_, rfl⟩) (fun h => hN _ _ ⟨?_, rfl⟩)
    · rw [take_more e1, List.filter_append, List.map_append, List.filter_cons_of_pos h]; rfl
    · rw [take_more e1, List.filter_append, List.filter_cons_of_neg (by rw [h]; decide), List.filter_nil, List.append_nil]
  · rintro acc cs' ⟨rfl, rfl⟩
    rw [List.length_map, List.take_length]
    exact hd
theorem r_cm {gd : WG} {R : List D → Cs → Prop} {l : List α} {g : α → D} (f : α → D)
    (hs : ∀ a (N : DP) (N' : Cs → Prop), a ∈ l → N (f a) cs → gd (g a) ρ fun ρ1 => wt ρ1 cs (fun b cs1 => (b = true → we ρ1 cs1 N Z0) ∧ (b = false → N' cs1)) Z0)
    (hd : R (l.map f) cs) : compW gd wt we (l.map g) ρ cs [] R := by
  refine r_cfm (fun _ => true) f (fun a N N' h h1 h2 => hs a N N' h (h1 rfl)) ?_
  rw [List.filter_eq_self.mpr fun _ _ => rfl]
  exact hd
theorem r_cmA {gd : WG} {R : List D → Cs → Prop} {l : List α} {g : α → D} (f : α → D) (acc0 : List D)
    (hs : ∀ a (N : DP) (N' : Cs → Prop), a ∈ l → N (f a) cs → gd (g a) ρ fun ρ1 => wt ρ1 cs (fun b cs1 => (b = true → we ρ1 cs1 N Z0) ∧ (b = false → N' cs1)) Z0)
    (hd : R (acc0 ++ l.map f) cs) : compW gd wt we (l.map g) ρ cs acc0 R := by
  refine r_compI (fun i acc cs' => acc = acc0 ++ (l.take i).map f ∧ cs' = cs) (l.map g) acc0 0 ⟨by simp, rfl⟩ ?_ ?_
  · rintro i d acc cs' N e ⟨rfl, rfl⟩ hN
    rw [Nat.zero_add] at hN ⊢
    rw [List.getElem?_map] at e
    obtain ⟨a, e1, rfl⟩ := Option.map_eq_some_iff.mp e
    refine hs a _ _ (List.mem_of_getElem? e1) (hN _ _ ⟨?_, rfl⟩)
    rw [take_more e1, List.map_append, List.append_assoc]; rfl
  · rintro acc cs' ⟨rfl, rfl⟩
    rw [Nat.zero_add, List.length_map, List.take_length]
    exact hd
/-- two generators over l.map g, nothing changes: each a makes the list f a -/
theorem r_c2m {wt1 : WT} {wi1 : WI} {gd g1 : WG} {vs1 : List Nat} {R : List D → Cs → Prop} {l : List α} {g : α → D} (f : α → List D)
    (hs : ∀ a acc (N : List D → Cs → Prop), a ∈ l → N (acc ++ f a) cs → acc.length + (f a).length ≤ (l.flatMap f).length → gd (g a) ρ fun ρ1 => wt ρ1 cs (fun b cs1 => (b = true → wi1 ρ1 cs1 (fun ys cs2 => acc.length + ys.length ≤ 100000 ∧ compW g1 wt1 we ys (wipeD ρ1 vs1) cs2 acc N) Z0) ∧ (b = false → N acc cs1)) Z0)
    (hd : R (l.flatMap f) cs) : compW2 gd wt wi1 g1 wt1 we vs1 (l.map g) ρ cs [] R := by
  refine r_comp2I (fun i acc cs' => acc = (l.take i).flatMap f ∧ cs' = cs) (l.map g) [] 0 ⟨rfl, rfl⟩ ?_ ?_
  · rintro i d acc cs' N e ⟨rfl, rfl⟩ hN
    rw [Nat.zero_add] at hN ⊢
    rw [List.getElem?_map] at e
    obtain ⟨a, e1, rfl⟩ := Option.map_eq_some_iff.mp e
    have e3 : (l.take (i + 1)).flatMap f = (l.take i).flatMap f ++ f a := by rw [take_more e1, List.flatMap_append]; simp
    refine hs a _ _ (List.mem_of_getElem? e1) (hN _ _ ⟨e3.symm, rfl⟩) ?_
    have e2 : (l.flatMap f).length = ((l.take (i + 1)).flatMap f).length + ((l.drop (i + 1)).flatMap f).length := by rw [← List.length_append, ← List.flatMap_append, List.take_append_drop]
    rw [e2, e3, List.length_append]; omega
  · rintro acc cs' ⟨rfl, rfl⟩
    rw [Nat.zero_add, List.length_map, List.take_length]
    exact hd
theorem r_loopE {nx bk ct : DL.Env → Cs → Prop} {rt : D → Cs → Prop} {ex : Exn → DL.Env → Cs → Prop} {gd : WG} {wb : WS} {xs : List D} (I : Nat → DL.Env → Cs → Prop) {l : List α} {g : α → D} (e : xs = l.map g) (h0 : I 0 ρ cs)
    (hs : ∀ i a ρ cs (N : DL.Env → Cs → Prop), l[i]? = some a → I i ρ cs → (∀ ρ' cs', I (i + 1) ρ' cs' → N ρ' cs') → gd (g a) ρ fun ρ1 => wb ⟨N, rt, ex, nx, N⟩ ρ1 cs)
    (hd : ∀ ρ cs, I l.length ρ cs → nx ρ cs) : loopW gd wb ⟨nx, rt, ex, bk, ct⟩ xs ρ cs := by subst e; exact r_loopL I h0 hs hd
theorem r_cmE {gd : WG} {R : List D → Cs → Prop} {xs : List D} {l : List α} {g : α → D} (e : xs = l.map g) (f : α → D)
    (hs : ∀ a (N : DP) (N' : Cs → Prop), a ∈ l → N (f a) cs → gd (g a) ρ fun ρ1 => wt ρ1 cs (fun b cs1 => (b = true → we ρ1 cs1 N Z0) ∧ (b = false → N' cs1)) Z0)
    (hd : R (l.map f) cs) : compW gd wt we xs ρ cs [] R := by subst e; exact r_cm f hs hd
theorem r_c2mE {wt1 : WT} {wi1 : WI} {gd g1 : WG} {vs1 : List Nat} {R : List D → Cs → Prop} {xs : List D} {l : List α} {g : α → D} (e : xs = l.map g) (f : α → List D)
    (hs : ∀ a acc (N : List D → Cs → Prop), a ∈ l → N (acc ++ f a) cs → acc.length + (f a).length ≤ (l.flatMap f).length → gd (g a) ρ fun ρ1 => wt ρ1 cs (fun b cs1 => (b = true → wi1 ρ1 cs1 (fun ys cs2 => acc.length + ys.length ≤ 100000 ∧ compW g1 wt1 we ys (wipeD ρ1 vs1) cs2 acc N) Z0) ∧ (b = false → N acc cs1)) Z0)
    (hd : R (l.flatMap f) cs) : compW2 gd wt wi1 g1 wt1 we vs1 xs ρ cs [] R := by subst e; exact r_c2m f hs hd
theorem r_zip {w : WA} {Z : XZ} {R : List D → Cs → Prop} (h : w ρ cs (fun ds cs1 => match ds with | [.lst xs, .lst ys] => R (List.zipWith (fun d e => D.tup [d, e]) xs ys) cs1 | [.tup xs, .tup ys] => R (List.zipWith (fun d e => D.tup [d, e]) xs ys) cs1 | _ => False) Z) : iZp w ρ cs R Z := h
end
section
variable {p q : Addr} {m : MO} {cs cs' : Cs}
theorem BagIn.over (hn : p ≠ q) (h : BagIn p cs) : BagIn p ((q, m) :: cs) := by
  obtain ⟨b, e, hb⟩ := h
  exact ⟨b, by unfold look; rw [if_neg (Ne.symm hn)]; exact e, hb⟩
end
/-- weights: a list or a tuple -/
def WD (wd : D) (ws : List Int) : Prop := wd = .lst (ws.map D.int) ∨ wd = .tup (ws.map D.int)
theorem WD.l (ws : List Int) : WD (.lst (ws.map D.int)) ws := .inl rfl
theorem WD.t (ws : List Int) : WD (.tup (ws.map D.int)) ws := .inr rfl
theorem r_lenW {wd : D} {ws : List Int} (h : WD wd ws) {cs : Cs} {P : DP} (hq : P (.int (ws.length : Int)) cs) : oLen [wd] cs P := by
  rcases h with rfl | rfl
  · exact r_lenL (by rw [List.length_map]; exact hq)
  · exact r_lenT (by rw [List.length_map]; exact hq)
theorem r_sumW {wd : D} {ws : List Int} (h : WD wd ws) {cs : Cs} {P : DP} (hq : P (.int ws.sum) cs) : oSumA [wd] cs P := by
  rcases h with rfl | rfl
  · exact ⟨ws, .inl rfl, hq⟩
  · exact ⟨ws, .inr rfl, hq⟩
theorem sIx_int {n : Nat} {a : Int} (h0 : 0 ≤ a) (h : a ≤ n) (d : Nat) : HT.sIx n d (some a) = a.toNat := by
  obtain ⟨k, rfl⟩ : ∃ k : Nat, a = k := ⟨a.toNat, by omega⟩
  rw [HT.sIx_nat]; omega
theorem cutD_int {xs : List D} {a b : Int} (h0 : 0 ≤ a) (h1 : a ≤ b) (h2 : b ≤ xs.length) : cutD xs (some a) (some b) = (xs.drop a.toNat).take (b - a).toNat := by
  unfold cutD
  rw [sIx_int h0 (by omega), sIx_int (by omega) h2]
  congr 1
  omega
/-- the sizes of rows of n things -/
structure SzOk (zs : List Int) (n : Nat) : Prop where
  pos : ∀ z ∈ zs, 1 ≤ z
  sum : zs.sum = n
theorem SzOk.pre_le {zs : List Int} {n : Nat} (h : SzOk zs n) (i : Nat) : preS zs i ≤ n := by rw [← h.sum]; exact preS_le h.pos i
theorem SzOk.len {zs : List Int} {n : Nat} (h : SzOk zs n) : zs.length ≤ n := by
  have := len_le_sum h.pos
  have := h.sum
  omega
theorem boxD_Bx {b : Bx} (hp : b.Pos) : boxD b.d = true := by
  unfold Bx.d
  rw [boxD_dB, decide_eq_true hp.w, decide_eq_true hp.h]; rfl
theorem r_flatB {k : Bool} {A : Prop} (h : A) : flatD (.bl k) = true ∧ A := ⟨rfl, h⟩
theorem range_get {n i j : Nat} (h : (List.range n)[i]? = some j) : i < n ∧ i = j := by
  obtain ⟨h1, h2⟩ := List.getElem?_eq_some_iff.mp h
  rw [List.length_range] at h1
  exact ⟨h1, by simpa using h2⟩
end DL
namespace DL
open PySem PySem.Spec PyProof.Rows L2
/-- what stands in a list, data or changing -/
def lstOf (cs : Cs) : D → Option (List D)
  | .lst xs => some xs
  | .opq (.ref p) => (match look p cs with
    | some (.lst xs) => some xs
    | _ => none)
  | _ => none
theorem lstOf_m {cs : Cs} {p : Addr} {xs : List D} (h : look p cs = some (.lst xs)) : lstOf cs (.opq (.ref p)) = some xs := by
  unfold lstOf
  simp only [h]
theorem lstOf_h {cs : Cs} {p : Addr} {xs : List D} : lstOf ((p, .lst xs) :: cs) (.opq (.ref p)) = some xs := lstOf_m look_hd
section
variable {X : Cx} {W : WX} {K : PySem.W.Frag} {σ : L2.St} {H : Hp} {a b : Expr} {wa wb : DL.WE} {pos : Pos}
theorem lstOf_sq {F G0 : Hp} {cs : Cs} {x : V} {d : D} {xs : List D} (s : Sta K F G0 cs H) (r : Rep K (pur F cs H) x d) (h : lstOf cs d = some xs) : ∃ p vs, x = .ref p ∧ SqL K H p vs ∧ RepL K (pur F cs H) vs xs := by
  cases d <;> try (cases h)
  · cases r with
    | lst h r => exact ⟨_, _, rfl, ex_l pur_le h, r⟩
  · rename_i v
    cases v <;> try (cases h)
    rename_i p
    cases r
    have h' : (match look p cs with
      | some (.lst xs) => some xs
      | _ => none) = some xs := h
    split at h'
    · rename_i ys e
      cases h'
      obtain ⟨vs, e1, e2⟩ := lst_at s e
      exact ⟨p, vs, rfl, SqL.of e1, e2⟩
    · cases h'
def rCatQ (K : PySem.W.Frag) : R2 := fun x y H Q => ∃ a b xs ys, x = .ref a ∧ y = .ref b ∧ SqL K H a xs ∧ SqL K H b ys ∧ xs.length + ys.length ≤ sizeLine ∧ ∀ p, H p = none → Q (.ref p) (upd H p (.lst (xs ++ ys)))
theorem op_catQ : OpR X (binaryOp .Add) (rCatQ X.K) := by
  intro pins s σ H x y v u Q I rx ry h
  obtain ⟨l, b, xs, zs, rfl, rfl, hH, hB, hz, q⟩ := h
  cases rx
  cases ry
  obtain ⟨its, r, pl, _⟩ := I.list hH
  obtain ⟨its2, r2, pl2, _⟩ := I.list hB
  obtain ⟨⟨cls, dd, data, sl⟩, n, ho, hc, hdd, hd⟩ := pl
  obtain ⟨⟨cls2, dd2, data2, sl2⟩, n2, ho2, hc2, hdd2, hd2⟩ := pl2
  simp only at hc hd hc2 hd2
  subst hc hd hc2 hd2
  have l1 := r.length
  have l2 := r2.length
  refine concat_meets ⟨_, ho, rfl⟩ ⟨_, ho2, rfl⟩ noFill_list_add seq_list_add PySem.F.slot_list_add PySem.F.entry_list_add (PySem.F.args_list_add_2 _ _) (list_addW l b its.toArray its2.toArray n n2 dd dd2 sl sl2 (by rw [List.size_toArray, List.size_toArray]; omega)) ⟨ho, ho2, ?_⟩
  have ea : its.toArray ++ its2.toArray = (its ++ its2).toArray := by simp
  rw [ea]
  exact ⟨.ref _, _, I.lnew (t' := s.toks) (r.append r2) (by rw [List.length_append]; omega), rfl, q _ I.fresh⟩
def oCatL : DO2 := fun x y cs P => ∃ xs ys, lstOf cs x = some xs ∧ lstOf cs y = some ys ∧ xs.length + ys.length ≤ 100000 ∧ P (.lst (xs ++ ys)) cs
def oCatM : DO2 := fun x y cs P => ∃ xs ys, lstOf cs x = some xs ∧ lstOf cs y = some ys ∧ xs.length + ys.length ≤ 100000 ∧ ∀ p, p ∉ adr cs → P (.opq (.ref p)) ((p, .lst (xs ++ ys)) :: cs)
theorem adq_catL : Adq K (rCatQ K) oCatL := fun F cs H x y dx dy P Q s rx ry ho pe => by
  obtain ⟨xs, ys, e1, e2, hl, h⟩ := ho
  obtain ⟨p, vs, rfl, h1, r1⟩ := lstOf_sq s rx e1
  obtain ⟨q, us, rfl, h2, r2⟩ := lstOf_sq s ry e2
  refine ⟨_, _, _, _, rfl, rfl, h1, h2, by rw [r1.length, r2.length]; exact Nat.le_trans hl (by decide), fun p hp => ?_⟩
  obtain ⟨s2, e2⟩ := s.new (o := .lst (vs ++ us)) hp
  exact pe _ cs _ _ s2 (.lst (SqL.of e2) ((r1.append r2).mono s2.gr)) h
theorem d_catL (ha : DE X W a wa) (hb : DE X W b wb) : DE X W (.BinOp a .Add b pos) (wOp oCatL wa wb) := d_op op_catQ adq_catL ha hb
def oLenX : DOn := fun ds cs P => ∃ d xs, ds = [d] ∧ lstOf cs d = some xs ∧ P (.int (xs.length : Int)) cs
def oListX : DOn := fun ds cs P => ∃ d xs, ds = [d] ∧ (lstOf cs d = some xs ∨ d = .tup xs) ∧ P (.lst xs) cs
def oListM : DOn := fun ds cs P => ∃ d xs, ds = [d] ∧ (lstOf cs d = some xs ∨ d = .tup xs) ∧ ∀ p, p ∉ adr cs → P (.opq (.ref p)) ((p, .lst xs) :: cs)
def oTupX : DOn := fun ds cs P => ∃ d xs, ds = [d] ∧ (lstOf cs d = some xs ∨ d = .tup xs) ∧ P (.tup xs) cs
def oAny : DOn := fun ds cs P => ∃ (d : D) (bs : List Bool), ds = [d] ∧ lstOf cs d = some (bs.map D.bl) ∧ P (.bl (bs.any id)) cs
theorem adq_any : AdqN K (rAny K) oAny := fun F cs H xs ds P Q s r ho pe => by
  obtain ⟨d, bs, rfl, e, h⟩ := ho
  cases r with
  | cons r1 t =>
    cases t
    obtain ⟨p, vs, rfl, h1, r1⟩ := lstOf_sq s r1 e
    have e2 := RepL.bls bs r1
    subst e2
    exact ⟨_, bs, rfl, h1, pe H cs _ _ s (.bl _) h⟩
def oMin2 : DOn := fun ds cs P => ∃ i j, ds = [.int i, .int j] ∧ P (.int (if j < i then j else i)) cs
def oMax2 : DOn := fun ds cs P => ∃ i j, ds = [.int i, .int j] ∧ P (.int (if i < j then j else i)) cs
end
section
variable {cs : Cs} {P : DP} {d e : D} {xs ys : List D} {p : Addr}
theorem r_catLL (hl : xs.length + ys.length ≤ 100000) (h : P (.lst (xs ++ ys)) cs) : oCatL (.lst xs) (.lst ys) cs P := ⟨xs, ys, rfl, rfl, hl, h⟩
theorem r_catML (hl : xs.length + ys.length ≤ 100000) (h : ∀ p, p ∉ adr cs → P (.opq (.ref p)) ((p, .lst (xs ++ ys)) :: cs)) : oCatM (.lst xs) (.lst ys) cs P := ⟨xs, ys, rfl, rfl, hl, h⟩
theorem r_lenH (h : P (.int (xs.length : Int)) ((p, .lst xs) :: cs)) : oLenX [.opq (.ref p)] ((p, .lst xs) :: cs) P := ⟨_, xs, rfl, lstOf_h, h⟩
theorem r_lenXL (h : P (.int (xs.length : Int)) cs) : oLenX [.lst xs] cs P := ⟨_, xs, rfl, rfl, h⟩
theorem r_tupH (h : P (.tup xs) ((p, .lst xs) :: cs)) : oTupX [.opq (.ref p)] ((p, .lst xs) :: cs) P := ⟨_, xs, rfl, .inl lstOf_h, h⟩
theorem r_tupXL (h : P (.tup xs) cs) : oTupX [.lst xs] cs P := ⟨_, xs, rfl, .inl rfl, h⟩
theorem r_tupXT (h : P (.tup xs) cs) : oTupX [.tup xs] cs P := ⟨_, xs, rfl, .inr rfl, h⟩
theorem r_listXH (h : P (.lst xs) ((p, .lst xs) :: cs)) : oListX [.opq (.ref p)] ((p, .lst xs) :: cs) P := ⟨_, xs, rfl, .inl lstOf_h, h⟩
theorem r_listXL (h : P (.lst xs) cs) : oListX [.lst xs] cs P := ⟨_, xs, rfl, .inl rfl, h⟩
theorem r_listXT (h : P (.lst xs) cs) : oListX [.tup xs] cs P := ⟨_, xs, rfl, .inr rfl, h⟩
theorem r_listML (h : ∀ p, p ∉ adr cs → P (.opq (.ref p)) ((p, .lst xs) :: cs)) : oListM [.lst xs] cs P := ⟨_, xs, rfl, .inl rfl, h⟩
theorem r_listMT (h : ∀ p, p ∉ adr cs → P (.opq (.ref p)) ((p, .lst xs) :: cs)) : oListM [.tup xs] cs P := ⟨_, xs, rfl, .inr rfl, h⟩
theorem r_min2 {i j : Int} (h : P (.int (if j < i then j else i)) cs) : oMin2 [.int i, .int j] cs P := ⟨_, _, rfl, h⟩
theorem r_max2 {i j : Int} (h : P (.int (if i < j then j else i)) cs) : oMax2 [.int i, .int j] cs P := ⟨_, _, rfl, h⟩
theorem r_sumL {ns : List Int} (h : P (.int ns.sum) cs) : oSumA [.lst (ns.map D.int)] cs P := ⟨ns, .inl rfl, h⟩
theorem r_sumT {ns : List Int} (h : P (.int ns.sum) cs) : oSumA [.tup (ns.map D.int)] cs P := ⟨ns, .inr rfl, h⟩
end
section
variable {X : Cx} {W : WX} {K : PySem.W.Frag} {σ : L2.St} {H : Hp} {a e : Expr} {wa : DL.WE} {w : WA} {cpos apos : Pos}
def oClear : DMt := fun x ds cs P => ∃ p xs, x = .opq (.ref p) ∧ ds = [] ∧ look p cs = some (.lst xs) ∧ P .non (put p (.lst []) cs)
theorem r_clearH {cs : Cs} {P : DP} {p : Addr} {xs : List D} (h : P .non ((p, .lst []) :: cs)) : oClear (.opq (.ref p)) [] ((p, .lst xs) :: cs) P := ⟨p, xs, rfl, rfl, look_hd, by rw [put_hd]; exact h⟩
end
end DL
namespace DL
open PySem PySem.Spec PyProof.Rows L2
end DL
namespace DL
open PySem PySem.Spec PyProof.Rows L2
theorem shiftS {prog : Program} {w : World} {A : Around} {I : Addr} {fp wr : List Addr} {G : Array GenState → Array GenState → Prop} {n : Nat} {P : Nat → Value → Prop} {St : Nat → Shared → Prop} (W : WalksS prog w A I fp wr G (n + 1) P St) :
    WalksS prog w A I fp wr G n (fun i => P (i + 1)) (fun i => St (i + 1)) where
  sub := W.sub
  grefl := W.grefl
  gtrans := W.gtrans
  frame := fun i s h' tk st => W.frame (i + 1) s h' tk st
  item := fun i s Q E hi st hQ => W.item (i + 1) s Q E (Nat.succ_lt_succ hi) st hQ
  done := fun s Q E st hQ => W.done s Q E st hQ
  self := fun i s Q E st hQ => W.self (i + 1) s Q E st hQ
section
variable {prog : Program} {w : World} {A : Around} {E : Value → Shared → Prop} {s : Shared}
theorem unpack_star {l : Addr} {x : Value} {xs : List Value} {Q : List Value → Shared → Prop} (hh : A.handled = none) (hl : s.heap.IsList l (x :: xs).toArray) (hz : xs.length ≤ sizeLine)
    (hQ : ∀ (h' : Heap) (tk : Nat), (∀ b o, s.heap.get? b = some o → h'.get? b = some o) → Q [x, .ref h'.objs.size] { s with heap := h'.push { cls := .type "list", data := .seq xs.toArray }, toks := tk }) :
    wpAny (model prog w) A (unpackItems (.ref l) 2 (some 1)) Q E s := by
  have hlt : l ≠ s.heap.objs.size := by obtain ⟨o, ho, _⟩ := hl; exact Nat.ne_of_lt (Heap.lt_size ho)
  have hne : ¬ s.heap.objs.size < s.heap.objs.size := Nat.lt_irrefl _
  unfold unpackItems
  refine wpAny_bind ?_
  unfold notIterableAtAll
  refine wpAny_bind (wpAny_specialOf hl.typeIs slot_list_iter.lookup ?_)
  refine wpAny_pure ?_
  simp only [Bool.false_eq_true, if_false]
  refine wpAny_bind (wpAny_holding (wpAny_pyIter_list hl ?_))
  have hl1 : (s.heap.push { cls := .type "list_iterator", data := .fields #[.ref l, .int 0 0] }).IsList l (x :: xs).toArray := hl.at fun o e => Heap.get?_push_of_some _ e
  have hi1 : (s.heap.push { cls := .type "list_iterator", data := .fields #[.ref l, .int 0 0] }).IsListIter s.heap.objs.size l 0 := ⟨_, Heap.get?_push_size _ rfl, rfl, rfl⟩
  refine wpAny_bind (wpAny_holding ?_)
  show wpAny _ _ (pyNext (.ref s.heap.objs.size) >>= _) _ _ _
  refine wpAny_bind (wpAny_pyNext_list_item hi1 hl1 (x := x) (by simp) fun h1 hit1 hs1 => ?_)
  refine wpAny_bind (wpAny_holding (wpAny_pure (wpAny_pure ?_)))
  simp only [List.length_cons, List.length_nil, Nat.zero_add, Nat.lt_irrefl, if_false]
  have hl2 : h1.IsList l (x :: xs).toArray := hl1.extBut hs1.extBut hlt
  have hsz : s.heap.objs.size < h1.objs.size := by obtain ⟨o, ho, _⟩ := hit1; exact Heap.lt_size ho
  have hsz2 : l < h1.objs.size := by obtain ⟨o, ho, _⟩ := hl2; exact Heap.lt_size ho
  have W0 := (Walks.list (prog := prog) (w := w) (A := A.in1) hh s.heap.objs.size l hlt (x :: xs).toArray).toS
  have W1 : WalksS prog w A.in1 s.heap.objs.size [s.heap.objs.size, l] [s.heap.objs.size] (fun a b => b = a) xs.length (fun i v => (x :: xs).toArray[i + 1]? = some v) (fun i sh => sh.heap.IsListIter s.heap.objs.size l (i + 1) ∧ sh.heap.IsList l (x :: xs).toArray) := shiftS (n := xs.length) W0
  refine wpAny_bind (wpAny_holding (wpAny_collect_iter (T := "list_iterator") (.inr (.inr (.inl rfl))) W1 (fun i sh st => st.1.typeIs) ⟨hit1, hl2⟩ (fun b hb => ?_) (by simp) (fun s' acc hm hit => ?_) hz))
  · rcases List.mem_cons.mp hb with rfl | hb
    · exact hsz
    · rw [List.mem_singleton.mp hb]; exact hsz2
  have eacc : acc.toList = xs := by
    refine List.ext_getElem? fun i => ?_
    obtain ⟨e1, e2⟩ := hit
    by_cases hi : i < xs.length
    · have hi' : i < acc.size := by omega
      have := e2 i acc[i] (by simp [hi'])
      rw [Array.getElem?_toList, Array.getElem?_eq_getElem hi']
      simpa using this.symm
    · rw [List.getElem?_eq_none (by simp; omega), List.getElem?_eq_none (by omega)]
  rw [eacc]
  simp only [Nat.sub_self, show 2 - 1 - 1 = 0 from rfl, Nat.not_lt_zero, if_false, Nat.sub_zero, List.take_length, List.drop_length]
  refine wpAny_bind (wpAny_newObj_type ?_ (by size_fits))
  refine wpAny_pure ?_
  obtain ⟨hp, g, d, tk, os⟩ := s'
  have hg : g = s.gens := hm.gens
  have hd : d = s.drawn := hm.drawn
  have ho : os = s.os := hm.os
  subst hg hd ho
  refine hQ hp _ fun b o e => hm.heap b o (fun z => ?_) (hs1.extBut b o (Nat.ne_of_lt (Heap.lt_size e)) (Heap.get?_push_of_some _ e))
  rw [List.mem_singleton.mp z] at e
  exact Nat.lt_irrefl _ (Heap.lt_size e)
end
section
variable {X : Cx} {W : WX} {K : PySem.W.Frag} {σ : L2.St} {H : Hp} {pos : Pos}
def gStarV (K : PySem.W.Frag) (g1 g2 : TG) : TG := fun v σ H Q => ∃ p x xs, v = .ref p ∧ SqL K H p (x :: xs) ∧ ∀ l, H l = none → g1 x σ (upd H l (.lst xs)) fun σ1 H1 => g2 (.ref l) σ1 H1 Q
theorem pg_star {e1 e2 : Expr} {ps : Pos} {k : Nat} {g1 g2 : TG} (hc : X.calm = true) (h1 : PG X e1 g1) (h2 : PG X e2 g2)
    (hn : assignEach [e1, .Starred e2 ps] X.env = [(false, assign e1 X.env), (true, assign e2 X.env)] := by rfl) : PG X (.Tuple [e1, .Starred e2 ps] k pos) (gStarV X.K g1 g2) := by
  refine ⟨fun pins s σ H v u Q I r hw => ?_⟩
  obtain ⟨p, x, xs, rfl, hq, hw⟩ := hw
  cases r
  obtain ⟨its, rv, pl, hz⟩ := I.list hq
  cases rv with
  | @cons _ u0 _ ur rx rr =>
    rw [assign_Tuple, hn]
    refine wpAny_bind (wpAny_standAt ?_)
    show wpAny _ _ (unpackItems (.ref p) 2 (some 1) |> fun m => do assignInOrder [assign e1 X.env, assign e2 X.env] (← holding [.ref p] m)) _ _ _
    have hzr : ur.length ≤ sizeLine := by
      have := Paired.length rr
      rw [← this]
      simp at hz
      omega
    refine wpAny_bind (wpAny_holding (unpack_star (I.ok.hd hc) pl.isList hzr fun h' tk hk => ?_))
    have I1 : Inv X pins σ H { s with heap := h', toks := tk } := I.kept (t' := tk) hk
    have I2 := I1.lnew (t' := tk) (its := ur) (ys := xs) rr (by have := Paired.length rr; rw [this]; exact hzr)
    refine assignInOrder_cons (thn (h1.run pins _ σ _ x u0 _ I2 rx (hw _ I1.fresh)) fun _ s2 ⟨σ2, H2, I3, q2⟩ => ?_)
    refine assignInOrder_cons (thn (h2.run pins _ σ2 H2 (.ref _) (.ref _) _ I3 rfl q2) fun _ s3 ⟨σ3, H3, I4, q3⟩ => ?_)
    exact assignInOrder_nil ⟨σ3, H3, I4, q3⟩
def gStar (g1 g2 : WG) : WG := fun d ρ k => match d with
  | .lst (x :: xs) => g1 x ρ fun ρ1 => g2 (.lst xs) ρ1 k
  | _ => False
theorem dg_star {e1 e2 : Expr} {ps : Pos} {kk : Nat} {g1 g2 : WG} (hc : X.calm = true) (h1 : DG X e1 g1) (h2 : DG X e2 g2)
    (hn : assignEach [e1, .Starred e2 ps] X.env = [(false, assign e1 X.env), (true, assign e2 X.env)] := by rfl) : DG X (.Tuple [e1, .Starred e2 ps] kk pos) (gStar g1 g2) :=
  PG.imp (pg_star hc h1 h2 hn) fun v σ H Q hq => by
    obtain ⟨F, cs, ρ, d, k, s, re, r, hw, q⟩ := hq
    cases d <;> try exact hw.elim
    rename_i ds
    cases ds with
    | nil => exact hw.elim
    | cons x xs =>
      cases r with
      | lst h r =>
        cases r with
        | cons r1 r2 =>
          refine ⟨_, _, _, rfl, ex_l pur_le h, fun l hl => ?_⟩
          obtain ⟨s2, e2⟩ := s.new (o := .lst _) hl
          refine ⟨F, cs, ρ, _, _, s2.self, re.mono s2.gr, r1.mono s2.gr, hw, fun σ1 ρ1 H1 s1 re1 h1 => ?_⟩
          exact ⟨F, cs, ρ1, _, k, s1.self, re1, .lst (ex_l s1.gr (SqL.of e2)) (r2.mono (s2.gr.trans s1.gr)), h1, fun σ2 ρ2 H2 s3 re2 h2 => q σ2 ρ2 H2 (s3.from_ (s2.gr.trans s1.gr)) re2 h2⟩
theorem r_gStar {g1 g2 : WG} {x : D} {xs : List D} {ρ : DL.Env} {k : DL.Env → Prop} (h : g1 x ρ fun ρ1 => g2 (.lst xs) ρ1 k) : gStar g1 g2 (.lst (x :: xs)) ρ k := h
def rSlAny (K : PySem.W.Frag) : V → Option Int → Option Int → Hp → VK → Prop := fun x lo hi H Q => (∃ a xs, x = .ref a ∧ SqL K H a xs ∧ ∀ p, H p = none → Q (.ref p) (upd H p (.lst (cutV xs lo hi)))) ∨ rSlA K x lo hi H Q
theorem sl_any : SlR X (rSlAny X.K) := by
  intro pins s σ H x v vl vu lo hi sl Q I rx hs pl pu h
  rcases h with h | h
  · exact sl_list pins s σ H x v vl vu lo hi sl Q I rx hs pl pu h
  · exact sl_tupA pins s σ H x v vl vu lo hi sl Q I rx hs pl pu h
def oSlAny : D → Option Int → Option Int → Cs → DP → Prop := fun x lo hi cs P => match x with
  | .lst xs => P (.lst (DL.cutD xs lo hi)) cs
  | .tup xs => P (.tup (DL.cutD xs lo hi)) cs
  | _ => False
theorem adq_slAny : AdqS K (rSlAny K) oSlAny := fun F cs H x dx lo hi P Q s rx ho pe => by
  cases dx <;> try exact ho.elim
  · exact .inr (adq_slT F cs H x _ lo hi P Q s rx ho pe)
  · exact .inl (adq_slL F cs H x _ lo hi P Q s rx ho pe)
theorem r_slAL {xs : List D} {lo hi : Option Int} {cs : Cs} {P : DP} (h : P (.lst (DL.cutD xs lo hi)) cs) : oSlAny (.lst xs) lo hi cs P := h
theorem r_slAT {xs : List D} {lo hi : Option Int} {cs : Cs} {P : DP} (h : P (.tup (DL.cutD xs lo hi)) cs) : oSlAny (.tup xs) lo hi cs P := h
theorem del_none {p : Addr} : ∀ {cs : Cs}, look p cs = none → del p cs = cs
  | [], _ => rfl
  | (a, x) :: r, h => by
    unfold look at h
    split at h
    · cases h
    · rename_i e
      unfold del
      rw [if_neg e, del_none h]
def wGone (we : DL.WE) : DL.WE := fun ρ cs P Z => we ρ cs (fun d cs1 => ∃ p, P d (del p cs1)) Z
theorem d_gone {e : Expr} {we : DL.WE} (h : DE X W e we) : DE X W e (wGone we) := PE.imp h fun σ H Q h => by
  obtain ⟨F, cs, ρ, P, Z, s, re, hw, pe, px⟩ := h
  refine ⟨F, cs, ρ, _, Z, s, re, hw, fun H1 cs1 v d s1 r1 h1 => ?_, px⟩
  obtain ⟨p, h1⟩ := h1
  cases e : look p cs1 with
  | none => rw [del_none e] at h1; exact pe H1 cs1 v d s1 r1 h1
  | some m =>
    obtain ⟨s2, g2, _⟩ := s1.frz e
    exact pe H1 _ v d s2 (r1.mono g2) h1
theorem r_gone {we : DL.WE} {ρ : DL.Env} {cs : Cs} {P : DP} {Z : XZ} (h : we ρ cs (fun d cs1 => ∃ p, P d (del p cs1)) Z) : wGone we ρ cs P Z := h
theorem r_goneH {p : Addr} {m : MO} {cs : Cs} {P : DP} {d : D} (h : P d cs) : ∃ p', P d (del p' ((p, m) :: cs)) := ⟨p, by rw [del_hd]; exact h⟩
end
end DL
namespace DL
open PySem PySem.Spec PyProof.Rows L2
def mxR (m y : Rat) : Rat := if m < y then y else m
def maxL : List Rat → Rat
  | [] => 0
  | x :: xs => xs.foldl mxR x
structure IsMax (m : Rat) (l : List Rat) : Prop where
  mem : m ∈ l
  le : ∀ y ∈ l, y ≤ m
theorem IsMax.uniq {m m' : Rat} {l : List Rat} (h : IsMax m l) (h' : IsMax m' l) : m = m' := Rat.le_antisymm (h'.le m h.mem) (h.le m' h'.mem)
theorem mxR_pos {m y : Rat} (h : m < y) : mxR m y = y := if_pos h
theorem mxR_neg {m y : Rat} (h : ¬ m < y) : mxR m y = m := if_neg h
theorem atD_zero (x : D) (xs : List D) : atD (x :: xs) 0 = some x := atI_nat (j := 0) rfl
theorem r_ix0 {x : D} {xs : List D} {cs : Cs} {P : DP} (h : P x cs) : oIx (.lst (x :: xs)) (.int 0) cs P := r_ixL (atD_zero x xs) h
theorem r_ix0T {x : D} {xs : List D} {cs : Cs} {P : DP} (h : P x cs) : oIx (.tup (x :: xs)) (.int 0) cs P := r_ixT (atD_zero x xs) h
theorem mxR_l (m y : Rat) : m ≤ mxR m y := by
  unfold mxR
  split
  · rename_i h; exact Rat.le_of_lt h
  · exact Rat.le_refl
theorem mxR_r (m y : Rat) : y ≤ mxR m y := by
  unfold mxR
  split
  · exact Rat.le_refl
  · rename_i h; exact Rat.not_lt.mp h
theorem mxR_or (m y : Rat) : mxR m y = m ∨ mxR m y = y := by
  unfold mxR
  split
  · exact .inr rfl
  · exact .inl rfl
theorem fold_is : ∀ (xs : List Rat) (x : Rat), IsMax (xs.foldl mxR x) (x :: xs)
  | [], x => ⟨List.mem_cons_self .., fun y hy => by rw [List.mem_singleton.mp hy]; exact Rat.le_refl⟩
  | a :: xs, x => by
    have ih := fold_is xs (mxR x a)
    refine ⟨?_, fun y hy => ?_⟩
    · rcases List.mem_cons.mp ih.mem with e | e
      · show (xs.foldl mxR (mxR x a)) ∈ _
        rw [e]
        rcases mxR_or x a with e | e <;> rw [e] <;> simp
      · exact List.mem_cons_of_mem _ (List.mem_cons_of_mem _ e)
    · have h0 := ih.le (mxR x a) (List.mem_cons_self ..)
      rcases List.mem_cons.mp hy with rfl | hy
      · exact Rat.le_trans (mxR_l _ _) h0
      · rcases List.mem_cons.mp hy with rfl | hy
        · exact Rat.le_trans (mxR_r _ _) h0
        · exact ih.le y (List.mem_cons_of_mem _ hy)
theorem maxL_is {l : List Rat} (h : l ≠ []) : IsMax (maxL l) l := by
  cases l with
  | nil => exact absurd rfl h
  | cons x xs => exact fold_is xs x
theorem maxL_eq {l : List Rat} {m : Rat} (h : IsMax m l) : maxL l = m := (maxL_is (fun z => by rw [z] at h; cases h.mem)).uniq h
/-- how a fold over places goes -/
theorem fold_take {l : List Rat} {x : Rat} {i : Nat} {y : Rat} (h : l[i]? = some y) : (l.take (i + 1)).foldl mxR x = mxR ((l.take i).foldl mxR x) y := by
  rw [take_more h, List.foldl_append]; rfl
theorem fold_head {x : Rat} (xs : List Rat) : (x :: xs).foldl mxR x = xs.foldl mxR x := by
  show xs.foldl mxR (mxR x x) = _
  have : mxR x x = x := by unfold mxR; split <;> rfl
  rw [this]
def rsh (b : Bx) (dn : Bool) (S W w : Int) : Rat := shapeR ((if dn then b.h else b.w) * Rat.divInt S W) ((if dn then b.w else b.h) * Rat.divInt w S)
def rowShape (b : Bx) (dn : Bool) (ws : List Int) (i n : Nat) : Rat := maxL (((ws.drop i).take n).map (rsh b dn ((ws.drop i).take n).sum ws.sum))
def Bx.shp (c : Bx) : Rat := shapeR c.w c.h
theorem SzOk.at_ {zs : List Int} {n : Nat} (h : SzOk zs n) {i : Nat} {z : Int} (hz : zs[i]? = some z) : 1 ≤ z.toNat ∧ (preS zs i).toNat + z.toNat ≤ n ∧ 1 ≤ z ∧ 0 ≤ preS zs i ∧ preS zs i + z ≤ n := by
  have h1 := preS_nonneg h.pos i
  have h2 := h.pre_le (i + 1)
  have h3 := h.pos z (List.mem_of_getElem? hz)
  rw [preS_succ hz] at h2
  omega
theorem cutD_pre {xs : List D} {a : Int} (h0 : 0 ≤ a) (h1 : a ≤ xs.length) : cutD xs none (some a) = xs.take a.toNat := by
  unfold cutD
  rw [HT.sIx_none, sIx_int h0 h1]
  simp
theorem cutD_suf {xs : List D} {a : Int} (h0 : 0 ≤ a) (h1 : a ≤ xs.length) : cutD xs (some a) none = xs.drop a.toNat := by
  unfold cutD
  rw [HT.sIx_none, sIx_int h0 h1]
  refine List.take_of_length_le ?_
  rw [List.length_drop]
  exact Nat.le_refl _
end DL
namespace DL
open PySem PySem.Spec PyProof.Rows L2
def absR (x : Rat) : Rat := if x < 0 then -x else x
theorem Sz.absR {n : Nat} {x : Rat} (h : Sz n x) : Sz n (absR x) := by
  unfold DL.absR
  split
  · exact h.neg
  · exact h
end DL
namespace DL
open PySem PySem.Spec PyProof.Rows L2
theorem ref_inj {o : Option Value} {a b : Addr} (h1 : o = some (.ref a)) (h2 : o = some (.ref b)) : a = b := by
  rw [h1] at h2
  cases h2
  rfl
def sp_law : DSp := fun ds cs P _ => ∃ ns : List Int, ds = [.lst (ns.map D.int)] ∧ ns.length ≤ 63 ∧ cs = [] ∧ ∀ cs', P (.bl true) cs'
theorem calmF {P : Program} {w : World} {K : PySem.W.Frag} {mg : Str → Option Value} {base : Heap} {k : Nat} {f : Addr} {fd : FuncData} {ps : List Str} {sp : Sp} (h : FnOk P w K mg base (L2.CX P w) k f fd ps sp) :
    FnOk P w K mg base CX0 k f fd ps (fun vs H Q _ => sp vs H Q fun _ _ _ => False) := by
  refine ⟨fun vs H Q E q => h.len vs H Q _ q, fun A outer s H args us vs Q E hr e0 hb r q => ?_⟩
  refine codeAny_mono (h.run A outer s H args us vs Q (fun _ _ _ => False) hr e0 hb r q) fun r s' hq => ?_
  cases r with
  | error e =>
    obtain ⟨_, _, _, _, _, _, _, _, _, _, _, _, z⟩ := hq
    exact z.elim
  | ok fl => cases fl <;> exact hq
end DL
namespace DL
open PySem PySem.Spec PyProof.Rows L2
section
variable {κ : Type} [DecidableEq κ] {α : Type}
/-- what a table holds at k -/
def lk (kvs : List (κ × α)) (k : κ) : Option α := match kvs with
  | [] => none
  | p :: r => if p.1 = k then some p.2 else lk r k
/-- a table with k at v -/
def putD (kvs : List (κ × α)) (k : κ) (v : α) : List (κ × α) :=
  if (lk kvs k).isSome = true then kvs.map fun p => (p.1, if p.1 = k then v else p.2) else kvs ++ [(k, v)]
theorem look_pos {p : κ × α} {r : List (κ × α)} {k : κ} (e : p.1 = k) : lk (p :: r) k = some p.2 := by
  rw [lk, if_pos e]
theorem look_neg {p : κ × α} {r : List (κ × α)} {k : κ} (e : ¬ p.1 = k) : lk (p :: r) k = lk r k := by
  rw [lk, if_neg e]
/-- a table made of a list: by a key that is one's own -/
theorem look_map {γ : Type} (f : γ → κ) (g : γ → α) (x : γ) : ∀ (l : List γ), x ∈ l → (∀ y ∈ l, f y = f x → y = x) → lk (l.map fun y => (f y, g y)) (f x) = some (g x)
  | [], h, _ => by cases h
  | y :: r, h, hi => by
    rw [List.map_cons]
    by_cases e : f y = f x
    · rw [look_pos (p := (f y, g y)) e, hi y (List.mem_cons_self ..) e]
    · rw [look_neg (p := (f y, g y)) e]
      refine look_map f g x r ?_ fun z hz => hi z (List.mem_cons_of_mem _ hz)
      rcases List.mem_cons.mp h with q | q
      · exact absurd (by rw [q]) e
      · exact q
end
inductive RG (K : PySem.W.Frag) (G : Hp) {κ : Type} : List (κ × V) → List (κ × D) → Prop
  | nil : RG K G [] []
  | cons {k : κ} {v : V} {vs : List (κ × V)} {d : D} {ds : List (κ × D)} : Rep K G v d → RG K G vs ds → RG K G ((k, v) :: vs) ((k, d) :: ds)
def RepQ (K : PySem.W.Frag) (G : Hp) : Option V → Option D → Prop
  | none, none => True
  | some v, some d => Rep K G v d
  | _, _ => False
section
variable {K : PySem.W.Frag} {G G' : Hp} {κ : Type} [DecidableEq κ]
theorem RepK.rg : ∀ {xs : List (Key × V)} {ds : List (Key × D)}, RepK K G xs ds → RG K G xs ds
  | _, _, .nil => .nil
  | _, _, .cons h r => .cons h r.rg
theorem RepT.rg : ∀ {xs : List (List Key × V)} {ds : List (List Key × D)}, RepT K G xs ds → RG K G xs ds
  | _, _, .nil => .nil
  | _, _, .cons h r => .cons h r.rg
theorem RG.rt {xs : List (List Key × V)} {ds : List (List Key × D)} (h : RG K G xs ds) : RepT K G xs ds := by
  induction h with
  | nil => exact .nil
  | cons h _ ih => exact .cons h ih
theorem RG.mono (e : Ex G G') {xs : List (κ × V)} {ds : List (κ × D)} (h : RG K G xs ds) : RG K G' xs ds := by
  induction h with
  | nil => exact .nil
  | cons h _ ih => exact .cons (h.mono e) ih
theorem RG.length {xs : List (κ × V)} {ds : List (κ × D)} (h : RG K G xs ds) : xs.length = ds.length := by
  induction h with
  | nil => rfl
  | cons _ _ ih => rw [List.length_cons, List.length_cons, ih]
theorem RG.val {xs : List (κ × V)} {ds : List (κ × D)} (h : RG K G xs ds) (k : κ) : RepQ K G (valV xs k) (lk ds k) := by
  induction h with
  | nil => exact True.intro
  | @cons j v vs d ds hr _ ih =>
    by_cases e : j = k
    · rw [valV_pos (p := (j, v)) e, look_pos (p := (j, d)) e]; exact hr
    · rw [valV_neg (p := (j, v)) e, look_neg (p := (j, d)) e]; exact ih
theorem RG.app {xs ys : List (κ × V)} {ds es : List (κ × D)} (h : RG K G xs ds) (h2 : RG K G ys es) : RG K G (xs ++ ys) (ds ++ es) := by
  induction h with
  | nil => exact h2
  | cons h _ ih => exact .cons h ih
theorem RG.put {xs : List (κ × V)} {ds : List (κ × D)} (h : RG K G xs ds) (k : κ) {v : V} {d : D} (r : Rep K G v d) : RG K G (putK xs k v) (putD ds k d) := by
  have q := h.val k
  unfold putK putD
  rw [valV_any]
  have e : (valV xs k).isSome = (lk ds k).isSome := by
    revert q
    cases valV xs k <;> cases lk ds k <;> intro q <;> first | rfl | exact (show False from q).elim
  rw [e]
  by_cases a : (lk ds k).isSome = true
  · rw [if_pos a, if_pos a]
    clear q e a
    induction h with
    | nil => exact .nil
    | @cons j v' vs d' ds hr _ ih =>
      rw [List.map_cons, List.map_cons]
      by_cases z : j = k
      · have e1 : (if (j, v').1 = k then ((j, v').1, v) else (j, v')) = (j, v) := if_pos z
        have e2 : ((j, d').1, if (j, d').1 = k then d else (j, d').2) = (j, d) := by rw [if_pos z]
        rw [e1, e2]; exact .cons r ih
      · have e1 : (if (j, v').1 = k then ((j, v').1, v) else (j, v')) = (j, v') := if_neg z
        have e2 : ((j, d').1, if (j, d').1 = k then d else (j, d').2) = (j, d') := by rw [if_neg z]
        rw [e1, e2]; exact .cons hr ih
  · rw [if_neg a, if_neg a]
    exact h.app (.cons r .nil)
theorem RG.get {xs : List (κ × V)} {ds : List (κ × D)} (h : RG K G xs ds) : ∀ {i : Nat} {k : κ} {d : D}, ds[i]? = some (k, d) → ∃ v, xs[i]? = some (k, v) ∧ Rep K G v d := by
  induction h with
  | nil => intro i k d e; simp at e
  | @cons j v vs d' ds hr _ ih =>
    intro i k d e
    cases i with
    | zero =>
      simp at e
      obtain ⟨rfl, rfl⟩ := e
      exact ⟨v, rfl, hr⟩
    | succ i => simpa using ih (by simpa using e)
theorem RepQ.isSome {o : Option V} {d : Option D} (h : RepQ K G o d) : o.isSome = d.isSome := by
  cases o <;> cases d <;> first | rfl | exact (show False from h).elim
theorem RepQ.getD {o : Option V} {d : Option D} {v : V} {e : D} (h : RepQ K G o d) (r : Rep K G v e) : Rep K G (o.getD v) (d.getD e) := by
  cases o <;> cases d <;> first | exact r | exact h | exact (show False from h).elim
end
def kD : Key → D
  | .inl i => .int i
  | .inr x => .str x
def kOf : D → Option Key
  | .int i => some (.inl i)
  | .str x => some (.inr x)
  | _ => none
def ksOf : List D → Option (List Key)
  | [] => some []
  | d :: r => match kOf d, ksOf r with
    | some k, some ks => some (k :: ks)
    | _, _ => none
abbrev DD := List (Key × D) ⊕ List (List Key × D)
def ddAt (x : D) (cs : Cs) : Option DD := match x with
  | .dic kvs => some (.inl kvs)
  | .dct kvs => some (.inr kvs)
  | .opq (.ref p) => (match look p cs with
    | some (.dic kvs) => some (.inl kvs)
    | some (.dct kvs) => some (.inr kvs)
    | _ => none)
  | _ => none
def getV (x y : D) (cs : Cs) : Option (Option D) := match ddAt x cs with
  | some (.inl kvs) => (kOf y).map fun k => lk kvs k
  | some (.inr kvs) => (match y with
    | .tup ds => (ksOf ds).map fun ks => lk kvs ks
    | _ => none)
  | none => none
def oGetD : DO2 := fun x y cs P => ∃ d, getV x y cs = some (some d) ∧ P d cs
def oInD : DO2 := fun y x cs P => ∃ o, getV x y cs = some o ∧ P (.bl o.isSome) cs
def oNotInD : DO2 := fun y x cs P => ∃ o, getV x y cs = some o ∧ P (.bl (!o.isSome)) cs
section
variable {X : Cx} {W : WX} {K : PySem.W.Frag} {σ : L2.St} {H : Hp} {a b c e : Expr} {wa wb wc we : DL.WE} {pos : Pos}
def wNewK : DL.WE := fun _ cs P _ => ∀ p, p ∉ adr cs → P (.opq (.ref p)) ((p, .dic []) :: cs)
def wNewT : DL.WE := fun _ cs P _ => ∀ p, p ∉ adr cs → P (.opq (.ref p)) ((p, .dct []) :: cs)
/-- {k: v}, the key an int or a text -/
def wOneK (wk wv : DL.WE) : DL.WE := fun ρ cs P Z => ∀ p, p ∉ adr cs → wk ρ ((p, .dic []) :: cs) (fun k cs1 => wv ρ cs1 (fun v cs2 => ∃ kk, kOf k = some kk ∧ look p cs2 = some (.dic []) ∧ P (.opq (.ref p)) (put p (.dic [(kk, v)]) cs2)) Z) Z
/-- a changing dict becomes data -/
def wLockD (we : DL.WE) : DL.WE := fun ρ cs P Z => we ρ cs (fun d cs1 => ∃ p, d = .opq (.ref p) ∧ ((∃ kvs, look p cs1 = some (.dic kvs) ∧ P (.dic kvs) (del p cs1)) ∨ ∃ kvs, look p cs1 = some (.dct kvs) ∧ P (.dct kvs) (del p cs1))) Z
def oSetDK : DSet := fun o i v cs Q => match o with
  | .opq (.ref p) => (match look p cs with
    | some (.dic ds) => ∃ k, kOf i = some k ∧ ds.length < 100000 ∧ Q (put p (.dic (putD ds k v)) cs)
    | _ => False)
  | _ => False
/-- d[(a, ..)] = v -/
def oSetDT (p : D) (ds : List D) (v : D) (cs : Cs) (Q : Cs → Prop) : Prop := match p with
  | .opq (.ref p) => (match look p cs with
    | some (.dct xs) => ∃ ks, ksOf ds = some ks ∧ xs.length < 100000 ∧ Q (put p (.dct (putD xs ks v)) cs)
    | _ => False)
  | _ => False
def sSetT (wv wo : DL.WE) (w : WA) : WS := fun f ρ cs => wv ρ cs (fun v cs1 => wo ρ cs1 (fun x cs2 => w ρ cs2 (fun ds cs3 => oSetDT x ds v cs3 fun cs4 => f.nx ρ cs4) (fun x cs1 => f.ex x ρ cs1)) (fun x cs1 => f.ex x ρ cs1)) (fun x cs1 => f.ex x ρ cs1)
end
section
variable {ρ : DL.Env} {cs : Cs} {P : DP} {Z : XZ} {we wv wo wi wk : DL.WE} {w : WA} {d : D} {p : Addr} {i j : Int} {x : Str} {kvs : List (Key × D)} {kts : List (List Key × D)} {R : Cs → Prop}
theorem r_getKI (h1 : lk kvs (.inl i) = some d) (h : P d cs) : oGetD (.dic kvs) (.int i) cs P := ⟨d, by simp [getV, ddAt, kOf, h1], h⟩
theorem r_getKS (h1 : lk kvs (.inr x) = some d) (h : P d cs) : oGetD (.dic kvs) (.str x) cs P := ⟨d, by simp [getV, ddAt, kOf, h1], h⟩
theorem r_getT2 (h1 : lk kts [.inl i, .inl j] = some d) (h : P d cs) : oGetD (.dct kts) (.tup [.int i, .int j]) cs P := ⟨d, by simp [getV, ddAt, kOf, ksOf, h1], h⟩
theorem r_getMI (hl : look p cs = some (.dic kvs)) (h1 : lk kvs (.inl i) = some d) (h : P d cs) : oGetD (.opq (.ref p)) (.int i) cs P := ⟨d, by simp [getV, ddAt, hl, kOf, h1], h⟩
theorem r_getMS (hl : look p cs = some (.dic kvs)) (h1 : lk kvs (.inr x) = some d) (h : P d cs) : oGetD (.opq (.ref p)) (.str x) cs P := ⟨d, by simp [getV, ddAt, hl, kOf, h1], h⟩
theorem r_getMT2 (hl : look p cs = some (.dct kts)) (h1 : lk kts [.inl i, .inl j] = some d) (h : P d cs) : oGetD (.opq (.ref p)) (.tup [.int i, .int j]) cs P := ⟨d, by simp [getV, ddAt, hl, kOf, ksOf, h1], h⟩
theorem r_inKI (h : P (.bl (lk kvs (.inl i)).isSome) cs) : oInD (.int i) (.dic kvs) cs P := ⟨_, by simp [getV, ddAt, kOf], h⟩
theorem r_inKS (h : P (.bl (lk kvs (.inr x)).isSome) cs) : oInD (.str x) (.dic kvs) cs P := ⟨_, by simp [getV, ddAt, kOf], h⟩
theorem r_inT2 (h : P (.bl (lk kts [.inl i, .inl j]).isSome) cs) : oInD (.tup [.int i, .int j]) (.dct kts) cs P := ⟨_, by simp [getV, ddAt, kOf, ksOf], h⟩
theorem r_inMI (hl : look p cs = some (.dic kvs)) (h : P (.bl (lk kvs (.inl i)).isSome) cs) : oInD (.int i) (.opq (.ref p)) cs P := ⟨_, by simp [getV, ddAt, hl, kOf], h⟩
theorem r_inMS (hl : look p cs = some (.dic kvs)) (h : P (.bl (lk kvs (.inr x)).isSome) cs) : oInD (.str x) (.opq (.ref p)) cs P := ⟨_, by simp [getV, ddAt, hl, kOf], h⟩
theorem r_notKI (h : P (.bl (!(lk kvs (.inl i)).isSome)) cs) : oNotInD (.int i) (.dic kvs) cs P := ⟨_, by simp [getV, ddAt, kOf], h⟩
theorem r_notKS (h : P (.bl (!(lk kvs (.inr x)).isSome)) cs) : oNotInD (.str x) (.dic kvs) cs P := ⟨_, by simp [getV, ddAt, kOf], h⟩
theorem r_notMI (hl : look p cs = some (.dic kvs)) (h : P (.bl (!(lk kvs (.inl i)).isSome)) cs) : oNotInD (.int i) (.opq (.ref p)) cs P := ⟨_, by simp [getV, ddAt, hl, kOf], h⟩
theorem r_notMS (hl : look p cs = some (.dic kvs)) (h : P (.bl (!(lk kvs (.inr x)).isSome)) cs) : oNotInD (.str x) (.opq (.ref p)) cs P := ⟨_, by simp [getV, ddAt, hl, kOf], h⟩
theorem r_newK (h : ∀ p, p ∉ adr cs → P (.opq (.ref p)) ((p, .dic []) :: cs)) : wNewK ρ cs P Z := h
theorem r_newT (h : ∀ p, p ∉ adr cs → P (.opq (.ref p)) ((p, .dct []) :: cs)) : wNewT ρ cs P Z := h
theorem r_oneK (h : ∀ p, p ∉ adr cs → wk ρ ((p, .dic []) :: cs) (fun k cs1 => wv ρ cs1 (fun v cs2 => ∃ kk, kOf k = some kk ∧ look p cs2 = some (.dic []) ∧ P (.opq (.ref p)) (put p (.dic [(kk, v)]) cs2)) Z) Z) : wOneK wk wv ρ cs P Z := h
theorem r_lockD (h : we ρ cs (fun d cs1 => ∃ p, d = .opq (.ref p) ∧ ((∃ kvs, look p cs1 = some (.dic kvs) ∧ P (.dic kvs) (del p cs1)) ∨ ∃ kvs, look p cs1 = some (.dct kvs) ∧ P (.dct kvs) (del p cs1))) Z) : wLockD we ρ cs P Z := h
theorem r_setKI (hz : kvs.length < 100000) (h : R ((p, .dic (putD kvs (.inl i) d)) :: cs)) : oSetDK (.opq (.ref p)) (.int i) d ((p, .dic kvs) :: cs) R := by
  unfold oSetDK; simp only [look, if_true]; exact ⟨.inl i, rfl, hz, by rw [put_hd]; exact h⟩
theorem r_setKS (hz : kvs.length < 100000) (h : R ((p, .dic (putD kvs (.inr x) d)) :: cs)) : oSetDK (.opq (.ref p)) (.str x) d ((p, .dic kvs) :: cs) R := by
  unfold oSetDK; simp only [look, if_true]; exact ⟨.inr x, rfl, hz, by rw [put_hd]; exact h⟩
theorem r_setT2 (hz : kts.length < 100000) (h : R ((p, .dct (putD kts [.inl i, .inl j] d)) :: cs)) : oSetDT (.opq (.ref p)) [.int i, .int j] d ((p, .dct kts) :: cs) R := by
  unfold oSetDT; simp only [look, if_true]; exact ⟨[.inl i, .inl j], rfl, hz, by rw [put_hd]; exact h⟩
section
variable {nx bk ct : DL.Env → Cs → Prop} {rt : D → Cs → Prop} {ex : Exn → DL.Env → Cs → Prop}
theorem q_setDK (h : wv ρ cs (fun v cs1 => wo ρ cs1 (fun x cs2 => wi ρ cs2 (fun i cs3 => oSetDK x i v cs3 fun cs4 => nx ρ cs4) (fun x cs1 => ex x ρ cs1)) (fun x cs1 => ex x ρ cs1)) (fun x cs1 => ex x ρ cs1)) : sSetIx wv wo wi oSetDK ⟨nx, rt, ex, bk, ct⟩ ρ cs := h
theorem q_setDT (h : wv ρ cs (fun v cs1 => wo ρ cs1 (fun x cs2 => w ρ cs2 (fun ds cs3 => oSetDT x ds v cs3 fun cs4 => nx ρ cs4) (fun x cs1 => ex x ρ cs1)) (fun x cs1 => ex x ρ cs1)) (fun x cs1 => ex x ρ cs1)) : sSetT wv wo w ⟨nx, rt, ex, bk, ct⟩ ρ cs := h
end
end
section
variable {ρ : DL.Env} {cs : Cs} {Z : XZ} {wa wb : DL.WE}
theorem r_rg2 {R : List D → Cs → Prop} (h : wa ρ cs (fun x cs1 => wb ρ cs1 (fun y cs2 => match x, y with | .int i, .int j => (-(2 ^ 62) ≤ i ∧ i < 2 ^ 62 ∧ -(2 ^ 62) ≤ j ∧ j < 2 ^ 62) ∧ R (rngD i (j - i).toNat) cs2 | _, _ => False) Z) Z) : iRg2 (wCons wa (wCons wb wNil)) ρ cs R Z := by
  unfold iRg2 wCons wNil
  have e : (fun (x : D) (cs1 : Cs) => wb ρ cs1 (fun (y : D) (cs2 : Cs) => (match [x, y] with | [D.int i, D.int j] => (-(2 ^ 62) ≤ i ∧ i < 2 ^ 62 ∧ -(2 ^ 62) ≤ j ∧ j < 2 ^ 62) ∧ R (rngD i (j - i).toNat) cs2 | _ => False)) Z)
      = fun (x : D) (cs1 : Cs) => wb ρ cs1 (fun y cs2 => match x, y with | .int i, .int j => (-(2 ^ 62) ≤ i ∧ i < 2 ^ 62 ∧ -(2 ^ 62) ≤ j ∧ j < 2 ^ 62) ∧ R (rngD i (j - i).toNat) cs2 | _, _ => False) Z := by
    funext x cs1
    congr 1
    funext y cs2
    cases x <;> cases y <;> rfl
  rw [← e] at h
  exact h
theorem rng1' {lo i : Int} {a n : Nat} (h : i.toNat = n) (hl : lo = a) : rngD lo i.toNat = (List.range n).map fun (i : Nat) => D.int ((a + i : Nat) : Int) := by
  rw [h, hl]
  unfold rngD
  refine List.map_congr_left fun i _ => ?_
  rw [Int.natCast_add]
end
end DL
namespace DL
open PySem PySem.Spec PyProof.Rows L2
section
variable {X : Cx} {W : WX} {K : PySem.W.Frag} {σ : L2.St} {H : Hp} {e : Expr} {we : DL.WE} {pos : Pos}
def iKeysD (we : DL.WE) : WI := fun ρ cs P Z => we ρ cs (fun d cs1 => match d with
  | .dic kvs => P (kvs.map fun p => kD p.1) cs1
  | .dct kvs => P (kvs.map fun p => D.tup (p.1.map kD)) cs1
  | _ => False) Z
def dcW (g : WG) (wt : WT) (wk wv : DL.WE) : List D → DL.Env → Cs → List (Key × D) → (List (Key × D) → Cs → Prop) → Prop
  | [], _, cs, acc, P => P acc cs
  | d :: r, ρ, cs, acc, P => g d ρ fun ρ1 => wt ρ1 cs (fun k cs1 => (k = true → wk ρ1 cs1 (fun y cs2 => wv ρ1 cs2 (fun z cs3 => ∃ kk, kOf y = some kk ∧ dcW g wt wk wv r ρ cs3 (putD acc kk z) P) Z0) Z0) ∧ (k = false → dcW g wt wk wv r ρ cs1 acc P)) Z0
def wDcR (wi : WI) (g : WG) (wt : WT) (wk wv : DL.WE) (vs : List Nat) (R : DP → List (Key × D) → Cs → Prop) : DL.WE := fun ρ cs P Z => wi ρ cs (fun xs cs1 => xs.length ≤ 100000 ∧ dcW g wt wk wv xs (wipeD ρ vs) cs1 [] (R P)) Z
abbrev RMK : DP → List (Key × D) → Cs → Prop := fun P ds cs2 => ∀ p, p ∉ adr cs2 → P (.opq (.ref p)) ((p, .dic ds) :: cs2)
variable {kx vx tg iter : Expr} {ifs : List Expr} {scope : Scope} {own : List (Str × Nat)} {wi : WI} {g : TG} {gd : WG} {wt : WT} {wk wv : DL.WE}
end
section
variable {X : Cx} {W : WX} {K : PySem.W.Frag} {σ : L2.St} {H : Hp} {pos : Pos}
abbrev RMT : DP → List (List Key × D) → Cs → Prop := fun P ds cs2 => ∀ p, p ∉ adr cs2 → P (.opq (.ref p)) ((p, .dct ds) :: cs2)
def dtW (g : WG) (wt : WT) (w : WA) (wv : DL.WE) : List D → DL.Env → Cs → List (List Key × D) → (List (List Key × D) → Cs → Prop) → Prop
  | [], _, cs, acc, P => P acc cs
  | d :: r, ρ, cs, acc, P => g d ρ fun ρ1 => wt ρ1 cs (fun k cs1 => (k = true → w ρ1 cs1 (fun ys cs2 => wv ρ1 cs2 (fun z cs3 => ∃ ks, ksOf ys = some ks ∧ dtW g wt w wv r ρ cs3 (putD acc ks z) P) Z0) Z0) ∧ (k = false → dtW g wt w wv r ρ cs1 acc P)) Z0
def wDtR (wi : WI) (g : WG) (wt : WT) (w : WA) (wv : DL.WE) (vs : List Nat) : DL.WE := fun ρ cs P Z => wi ρ cs (fun xs cs1 => xs.length ≤ 100000 ∧ dtW g wt w wv xs (wipeD ρ vs) cs1 [] (RMT P)) Z
/-- {x: v for x in d if test}, d a dict of tuples that is data -/
def dkW (i : Nat) (wt : WT) (wv : DL.WE) : List (List Key) → DL.Env → Cs → List (List Key × D) → (List (List Key × D) → Cs → Prop) → Prop
  | [], _, cs, acc, P => P acc cs
  | k :: r, ρ, cs, acc, P => wt (ρ.set i (some (.tup (k.map kD)))) cs (fun b cs1 => (b = true → wv (ρ.set i (some (.tup (k.map kD)))) cs1 (fun z cs2 => dkW i wt wv r ρ cs2 (putD acc k z) P) Z0) ∧ (b = false → dkW i wt wv r ρ cs1 acc P)) Z0
def wDkR (i : Nat) (we : DL.WE) (wt : WT) (wv : DL.WE) (vs : List Nat) : DL.WE := fun ρ cs P Z => we ρ cs (fun d cs1 => match d with
  | .dct kvs => kvs.length ≤ 100000 ∧ dkW i wt wv (kvs.map (·.1)) (wipeD ρ vs) cs1 [] (RMT P)
  | _ => False) Z
variable {kx vx tg iter : Expr} {ifs : List Expr} {scope : Scope} {own : List (Str × Nat)} {wi : WI} {g : TG} {gd : WG} {wt : WT} {w : WA} {wv we : DL.WE} {es : List Expr} {kt : Nat} {kp px : Pos} {x : Str} {i0 : Nat}
end
section
variable {ρ : DL.Env} {cs : Cs} {P : DP} {Z : XZ} {we wk wv : DL.WE} {wt : WT} {w : WA} {g : WG}
theorem r_keysI {R : List D → Cs → Prop} (h : we ρ cs (fun d cs1 => match d with
  | .dic kvs => R (kvs.map fun p => kD p.1) cs1
  | .dct kvs => R (kvs.map fun p => D.tup (p.1.map kD)) cs1
  | _ => False) Z) : iKeysD we ρ cs R Z := h
theorem r_dcK {wi : WI} {vs : List Nat} (h : wi ρ cs (fun xs cs1 => xs.length ≤ 100000 ∧ dcW g wt wk wv xs (wipeD ρ vs) cs1 [] (fun ds cs2 => ∀ p, p ∉ adr cs2 → P (.opq (.ref p)) ((p, .dic ds) :: cs2))) Z) : wDcR wi g wt wk wv vs RMK ρ cs P Z := h
theorem r_dcT {wi : WI} {vs : List Nat} (h : wi ρ cs (fun xs cs1 => xs.length ≤ 100000 ∧ dtW g wt w wv xs (wipeD ρ vs) cs1 [] (fun ds cs2 => ∀ p, p ∉ adr cs2 → P (.opq (.ref p)) ((p, .dct ds) :: cs2))) Z) : wDtR wi g wt w wv vs ρ cs P Z := h
theorem r_dcKT {i : Nat} {vs : List Nat} (h : we ρ cs (fun d cs1 => match d with
  | .dct kvs => kvs.length ≤ 100000 ∧ dkW i wt wv (kvs.map (·.1)) (wipeD ρ vs) cs1 [] (fun ds cs2 => ∀ p, p ∉ adr cs2 → P (.opq (.ref p)) ((p, .dct ds) :: cs2))
  | _ => False) Z) : wDkR i we wt wv vs ρ cs P Z := h
theorem r_ks2 {i j : Int} {z : D} {N : List Key → D → Cs → Prop} (h : N [.inl i, .inl j] z cs) : ∃ ks, ksOf [.int i, .int j] = some ks ∧ N ks z cs := ⟨_, rfl, h⟩
theorem r_kkI {i : Int} {z : D} {N : Key → D → Cs → Prop} (h : N (.inl i) z cs) : ∃ kk, kOf (.int i) = some kk ∧ N kk z cs := ⟨_, rfl, h⟩
theorem r_kkS {x : Str} {z : D} {N : Key → D → Cs → Prop} (h : N (.inr x) z cs) : ∃ kk, kOf (.str x) = some kk ∧ N kk z cs := ⟨_, rfl, h⟩
end
end DL
namespace DL
open PySem PySem.Spec PyProof.Rows L2
/-- the rows: first and end -/
def spots (n : Nat) : List (Nat × Nat) := (List.range n).flatMap fun f => (List.range (n - f)).map fun j => (f, f + 1 + j)
def spK (p : Nat × Nat) : List Key := [.inl (p.1 : Int), .inl (p.2 : Int)]
theorem spK_inj {p q : Nat × Nat} (h : spK p = spK q) : p = q := by
  obtain ⟨a, b⟩ := p
  obtain ⟨c, d⟩ := q
  simp only [spK, List.cons.injEq, Sum.inl.injEq, and_true] at h
  obtain ⟨h1, h2⟩ := h
  have e1 : a = c := by omega
  have e2 : b = d := by omega
  rw [e1, e2]
theorem mem_spots {n : Nat} {p : Nat × Nat} : p ∈ spots n ↔ p.1 < p.2 ∧ p.2 ≤ n := by
  unfold spots
  rw [List.mem_flatMap]
  constructor
  · rintro ⟨f, hf, hp⟩
    obtain ⟨j, hj, rfl⟩ := List.mem_map.mp hp
    have := List.mem_range.mp hf
    have := List.mem_range.mp hj
    simp only
    omega
  · rintro ⟨h1, h2⟩
    refine ⟨p.1, List.mem_range.mpr (by omega), List.mem_map.mpr ⟨p.2 - p.1 - 1, List.mem_range.mpr (by omega), ?_⟩⟩
    obtain ⟨a, b⟩ := p
    simp only at h1 h2 ⊢
    congr 1
    omega
/-- the shape of the row from f to e -/
def shp (b : Bx) (dn : Bool) (ws : List Int) (f e : Nat) : Rat := rowShape b dn ws f (e - f)
def tabOf (sh : Nat → Nat → Rat) (l : List (Nat × Nat)) : List (List Key × D) := l.map fun p => (spK p, dR (sh p.1 p.2))
def shapesT (b : Bx) (dn : Bool) (ws : List Int) : List (List Key × D) := tabOf (shp b dn ws) (spots ws.length)
theorem lk_tab {sh : Nat → Nat → Rat} {l : List (Nat × Nat)} {f e : Nat} (h : (f, e) ∈ l) : lk (tabOf sh l) [.inl (f : Int), .inl (e : Int)] = some (dR (sh f e)) :=
  look_map spK (fun p => dR (sh p.1 p.2)) (f, e) l h fun y _ hy => spK_inj hy
theorem lk_shapes {b : Bx} {dn : Bool} {ws : List Int} {f e : Int} (h0 : 0 ≤ f) (h1 : f < e) (h2 : e ≤ ws.length) : lk (shapesT b dn ws) [.inl f, .inl e] = some (dR (shp b dn ws f.toNat e.toNat)) := by
  have := lk_tab (sh := shp b dn ws) (l := spots ws.length) (f := f.toNat) (e := e.toNat) (mem_spots.mpr ⟨by simp only; omega, by simp only; omega⟩)
  rw [show ((f.toNat : Nat) : Int) = f by omega, show ((e.toNat : Nat) : Int) = e by omega] at this
  exact this
theorem r_getSh {b : Bx} {dn : Bool} {ws : List Int} {f e : Int} {cs : Cs} {P : DP} (h0 : 0 ≤ f) (h1 : f < e) (h2 : e ≤ ws.length) (h : P (dR (shp b dn ws f.toNat e.toNat)) cs) : oGetD (.dct (shapesT b dn ws)) (.tup [.int f, .int e]) cs P := r_getT2 (lk_shapes h0 h1 h2) h
end DL
namespace DL
open PySem PySem.Spec PyProof.Rows L2
/-- rows of sizes from f to n -/
inductive Way (n : Nat) : Nat → List Nat → Prop
  | nil : Way n n []
  | cons {f z : Nat} {zs : List Nat} : 1 ≤ z → f + z ≤ n → Way n (f + z) zs → Way n f (z :: zs)
theorem Way.le {n f : Nat} {zs : List Nat} (h : Way n f zs) : f ≤ n := by
  cases h with
  | nil => exact Nat.le_refl _
  | cons h1 h2 _ => omega
theorem Way.sum {n f : Nat} {zs : List Nat} (h : Way n f zs) : f + zs.sum = n := by
  induction h with
  | nil => rfl
  | cons _ _ _ ih => rw [List.sum_cons]; omega
theorem Way.pos {n f : Nat} {zs : List Nat} (h : Way n f zs) : ∀ z ∈ zs, 1 ≤ z := by
  induction h with
  | nil => intro z hz; cases hz
  | cons h1 _ _ ih =>
    intro z hz
    rcases List.mem_cons.mp hz with e | e
    · rw [e]; exact h1
    · exact ih z e
theorem Way.of {n : Nat} : ∀ {f : Nat} {zs : List Nat}, (∀ z ∈ zs, 1 ≤ z) → f + zs.sum = n → Way n f zs
  | f, [], _, h => by
    have : f = n := by simpa using h
    rw [this]; exact .nil
  | f, z :: zs, hp, h => by
    rw [List.sum_cons] at h
    exact .cons (hp z (List.mem_cons_self ..)) (by omega) (Way.of (fun y hy => hp y (List.mem_cons_of_mem _ hy)) (by omega))
theorem Way.end_ {n : Nat} {zs : List Nat} (h : Way n n zs) : zs = [] := by
  cases h with
  | nil => rfl
  | cons h1 h2 _ => omega
/-- the worst shape of rows -/
def wFrom (sh : Nat → Nat → Rat) : Nat → List Nat → Rat
  | _, [] => 1
  | f, z :: zs => mxR (sh f (f + z)) (wFrom sh (f + z) zs)
theorem wFrom_or (sh : Nat → Nat → Rat) {n : Nat} {f : Nat} {zs : List Nat} (h : Way n f zs) : wFrom sh f zs = 1 ∨ ∃ a b, a < b ∧ b ≤ n ∧ wFrom sh f zs = sh a b := by
  induction h with
  | nil => exact .inl rfl
  | @cons f z zs h1 h2 _ ih =>
    rw [wFrom]
    rcases mxR_or (sh f (f + z)) (wFrom sh (f + z) zs) with e | e
    · exact .inr ⟨f, f + z, by omega, h2, e⟩
    · rw [e]; exact ih
/-- x is the least worst shape behind f -/
structure IsLE (sh : Nat → Nat → Rat) (n f : Nat) (x : Rat) : Prop where
  is : ∃ zs, Way n f zs ∧ wFrom sh f zs = x
  le : ∀ zs, Way n f zs → x ≤ wFrom sh f zs
section
variable {sh : Nat → Nat → Rat} {n f : Nat} {x y : Rat}
theorem IsLE.uniq (h : IsLE sh n f x) (h' : IsLE sh n f y) : x = y := by
  obtain ⟨zs, w, e⟩ := h.is
  obtain ⟨zs', w', e'⟩ := h'.is
  exact Rat.le_antisymm (by rw [← e']; exact h.le zs' w') (by rw [← e]; exact h'.le zs w)
theorem IsLE.end_ : IsLE sh n n 1 := ⟨⟨[], .nil, rfl⟩, fun zs h => by rw [h.end_]; exact Rat.le_refl⟩
theorem IsLE.sz {k : Nat} (h : IsLE sh n f x) (h1 : Sz k 1) (hs : ∀ a b, a < b → b ≤ n → Sz k (sh a b)) : Sz k x := by
  obtain ⟨zs, w, rfl⟩ := h.is
  rcases wFrom_or sh w with e | ⟨a, b, ha, hb, e⟩
  · rw [e]; exact h1
  · rw [e]; exact hs a b ha hb
open Classical in
/-- the least worst shape behind f -/
noncomputable def LE (sh : Nat → Nat → Rat) (n f : Nat) : Rat := if h : ∃ x, IsLE sh n f x then h.choose else 1
theorem IsLE.eq (h : IsLE sh n f x) : LE sh n f = x := by
  unfold LE
  rw [dif_pos ⟨x, h⟩]
  exact (Exists.choose_spec (⟨x, h⟩ : ∃ x, IsLE sh n f x)).uniq h
end
/-- the first of the ways on which all rows are good -/
inductive IsFW (good : Nat → Nat → Prop) (n : Nat) : Nat → List Nat → Prop
  | nil : IsFW good n n []
  | cons {f z : Nat} {zs : List Nat} : 1 ≤ z → f + z ≤ n → good f (f + z) → (∀ y, 1 ≤ y → y < z → ¬ good f (f + y)) → IsFW good n (f + z) zs → IsFW good n f (z :: zs)
section
variable {good : Nat → Nat → Prop} {n f : Nat} {zs ys : List Nat}
theorem IsFW.way (h : IsFW good n f zs) : Way n f zs := by
  induction h with
  | nil => exact .nil
  | cons h1 h2 _ _ _ ih => exact .cons h1 h2 ih
theorem IsFW.uniq (h : IsFW good n f zs) : ∀ {ys}, IsFW good n f ys → zs = ys := by
  induction h with
  | nil => intro ys h'; exact h'.way.end_.symm
  | @cons f z zs h1 h2 g m r ih =>
    intro ys h'
    cases h' with
    | nil => omega
    | @cons _ y ys h1' h2' g' m' r' =>
      have e : z = y := by
        rcases Nat.lt_trichotomy z y with q | q | q
        · exact absurd g (m' z h1 q)
        · exact q
        · exact absurd g' (m y h1' q)
      subst e
      rw [ih r']
end
section
variable {sh : Nat → Nat → Rat} {n f : Nat} {B : Rat}
theorem IsFW.snoc {good : Nat → Nat → Prop} {g e : Nat} {ys : List Nat} (h : ∀ zs, IsFW good n f zs → IsFW good n g (ys ++ zs)) (h1 : f < e) (h2 : e ≤ n) (hg : good f e) (hn : ∀ y, f < y → y < e → ¬ good f y) : ∀ zs, IsFW good n e zs → IsFW good n g ((ys ++ [e - f]) ++ zs) := fun zs hz => by
  rw [List.append_assoc]
  have e1 : f + (e - f) = e := by omega
  exact h _ (.cons (by omega) (by omega) (by rw [e1]; exact hg) (fun y y1 y2 => hn (f + y) (by omega) (by omega)) (by rw [e1]; exact hz))
end
end DL
namespace DL
open PySem PySem.Spec PyProof.Rows L2
section
variable {X : Cx} {W : WX} {K : PySem.W.Frag} {σ : L2.St} {H : Hp} {a e : Expr} {wa we : DL.WE} {w : WA} {pos : Pos}
/-- n - 1, .., 0 -/
def dnD (n : Nat) : List D := (List.range n).map fun (i : Nat) => D.int ((n : Int) - 1 - (i : Int))
def iRev1 (wa : DL.WE) : WI := fun ρ cs P Z => wa ρ cs (fun d cs1 => match d with
  | .int j => (0 ≤ j ∧ j < 2 ^ 62) ∧ P (dnD j.toNat) cs1
  | _ => False) Z
/-- range(a, b, -1) -/
def dnR (i : Int) (n : Nat) : List D := (List.range n).map fun (k : Nat) => D.int (i - (k : Int))
def iRg3 (w : WA) : WI := fun ρ cs P Z => w ρ cs (fun ds cs1 => match ds with
  | [.int i, .int j, .int (-1)] => (-(2 ^ 62) ≤ i ∧ i < 2 ^ 62 ∧ -(2 ^ 62) ≤ j ∧ j < 2 ^ 62) ∧ P (dnR i (i - j).toNat) cs1
  | _ => False) Z
/-- list(range(n)) -/
def wLstR (wa : DL.WE) : DL.WE := fun ρ cs P Z => wa ρ cs (fun d cs1 => match d with
  | .int j => (0 ≤ j ∧ j ≤ 100000) ∧ P (.lst (rngD 0 j.toNat)) cs1
  | _ => False) Z
def wLstRM (wa : DL.WE) : DL.WE := fun ρ cs P Z => wa ρ cs (fun d cs1 => match d with
  | .int j => (0 ≤ j ∧ j ≤ 100000) ∧ ∀ p, p ∉ adr cs1 → P (.opq (.ref p)) ((p, .lst (rngD 0 j.toNat)) :: cs1)
  | _ => False) Z
end
section
variable {ρ : DL.Env} {cs : Cs} {P : DP} {Z : XZ} {wa wb wc : DL.WE}
theorem r_rev1 {R : List D → Cs → Prop} (h : wa ρ cs (fun d cs1 => match d with
  | .int j => (0 ≤ j ∧ j < 2 ^ 62) ∧ R (dnD j.toNat) cs1
  | _ => False) Z) : iRev1 wa ρ cs R Z := h
theorem r_rg3 {R : List D → Cs → Prop} {i j : Int} {w : WA} (h : w ρ cs (fun ds cs1 => match ds with
  | [.int i, .int j, .int (-1)] => (-(2 ^ 62) ≤ i ∧ i < 2 ^ 62 ∧ -(2 ^ 62) ≤ j ∧ j < 2 ^ 62) ∧ R (dnR i (i - j).toNat) cs1
  | _ => False) Z) : iRg3 w ρ cs R Z := h
theorem r_lstR (h : wa ρ cs (fun d cs1 => match d with
  | .int j => (0 ≤ j ∧ j ≤ 100000) ∧ P (.lst (rngD 0 j.toNat)) cs1
  | _ => False) Z) : wLstR wa ρ cs P Z := h
theorem r_lstRM (h : wa ρ cs (fun d cs1 => match d with
  | .int j => (0 ≤ j ∧ j ≤ 100000) ∧ ∀ p, p ∉ adr cs1 → P (.opq (.ref p)) ((p, .lst (rngD 0 j.toNat)) :: cs1)
  | _ => False) Z) : wLstRM wa ρ cs P Z := h
end
theorem tuple_mul1 (l : Addr) (items : Array Value) (n : Nat) (dd : Option Addr) (sl : Array (Option Value)) (u : Tok) :
    Meets (Builtin.«tuple.__mul__» ⟨[.ref l, .int 1 u], []⟩) (fun _ R s => s.heap.get? l = some { cls := .type "tuple", dict := dd, data := .seq items n, slots := sl } ∧ R (.ok (.ret (Value.ref l))) s) :=
  .of_wp fun prog w A R s h => by
    obtain ⟨hp, g, d, tk, os⟩ := s
    obtain ⟨hl, h⟩ := h
    have f1 := AutoSeq1.idx_int
    have c1 : (items.isEmpty || (1 : Int) == 1) = true := by cases items.isEmpty <;> rfl
    wp_walk using wpAny_loadPart' hl
    repeat (first
      | (refine wpAny_ite_true (decide_eq_true c1) ?_; wp_walk using wpAny_loadPart' hl)
      | (refine wpAny_ite_true (by rw [c1]; rfl) ?_; wp_walk using wpAny_loadPart' hl))
    exact ⟨_, rfl, h⟩
def rRepO (K : PySem.W.Frag) : R2 := fun x y H Q => ∃ l xs, x = .ref l ∧ y = .int 1 ∧ SqT K H l xs ∧ Q (.ref l) H
section
variable {X : Cx} {W : WX} {K : PySem.W.Frag} {a b : Expr} {wa wb : DL.WE} {pos : Pos}
theorem op_repO : OpR X (binaryOp .Mult) (rRepO X.K) := by
  intro pins s σ H x y v u Q I rx ry h
  obtain ⟨l, xs, rfl, rfl, hT, q⟩ := h
  cases rx
  obtain ⟨t, rfl⟩ := ry
  obtain ⟨its, r, ⟨⟨cls, dd, data, sl⟩, ho, hc, n, hd⟩, hs⟩ := I.tuple hT
  simp only at hc hd
  subst hc hd
  exact wpAny_binaryOp_repeat_ref (T := "tuple") (U := "int") (by decide) ⟨_, ho, rfl⟩ (fun s' => typeIs_int s' 1 t) noFill_tuple_mul F.fills_int_mul F.slot_int_rmul repeat_tuple F.slot_int_index.lookup
    (call_meets F.slot_int_rmul (typeIs_int s 1 t) F.entry_int_rmul (F.args_int_rmul_2 _ _) (int_rmul_tuple 1 t l its.toArray n dd sl)
      ⟨ho, rfl, ⟨_, ho, rfl⟩, call_meets F.slot_tuple_mul ⟨_, ho, rfl⟩ F.entry_tuple_mul (F.args_tuple_mul_2 _ _) (tuple_mul1 l its.toArray n dd sl t) ⟨ho, .ref l, H, I, rfl, q⟩⟩)
def rRep (K : PySem.W.Frag) : R2 := fun x y H Q => rRepO K x y H Q ∨ rRepT K x y H Q
theorem op_rep : OpR X (binaryOp .Mult) (rRep X.K) := by
  intro pins s σ H x y v u Q I rx ry h
  rcases h with h | h
  · exact op_repO pins s σ H x y v u Q I rx ry h
  · exact op_repT pins s σ H x y v u Q I rx ry h
theorem RepL.rep {G : Hp} {vs : List V} {ds : List D} (h : RepL K G vs ds) : ∀ k : Nat, RepL K G (List.replicate k vs).flatten (List.replicate k ds).flatten
  | 0 => .nil
  | k + 1 => by
    rw [List.replicate_succ, List.replicate_succ, List.flatten_cons, List.flatten_cons]
    exact h.append (RepL.rep h k)
end
end DL
namespace DL
open PySem PySem.Spec PyProof.Rows L2
section
variable {X : Cx} {W : WX} {K : PySem.W.Frag} {σ : L2.St} {H : Hp} {pos : Pos} {a b e : Expr} {es : List Expr} {wa wb we : DL.WE} {w : WA} {apos cpos : Pos}
def isDM (d : D) (cs : Cs) : Prop := match d with
  | .opq (.ref p) => (match look p cs with
    | some (.dic _) => True
    | some (.dct _) => True
    | _ => False)
  | _ => False
def wMtD (o : DMt) (wo : DL.WE) (w : WA) : DL.WE := fun ρ cs P Z => wo ρ cs (fun x cs1 => isDM x cs1 ∧ w ρ cs1 (fun ds cs2 => o x ds cs2 P) Z) Z
def mergeD (kvs more : List (Key × D)) : List (Key × D) := more.foldl (fun acc kv => putD acc kv.1 kv.2) kvs
def oUpd : DMt := fun x ds cs P => ∃ p kvs more, x = .opq (.ref p) ∧ look p cs = some (.dic kvs) ∧ ds = [.dic more] ∧ kvs.length + more.length ≤ 100000 ∧ P .non (put p (.dic (mergeD kvs more)) cs)
/-- d.get(k, x) -/
def wGet2 (wo wk wz : DL.WE) : DL.WE := fun ρ cs P Z => wo ρ cs (fun x cs1 => (∃ dd, ddAt x cs1 = some dd) ∧ wk ρ cs1 (fun k cs2 => wz ρ cs2 (fun z cs3 => ∃ o, getV x k cs3 = some o ∧ P (o.getD z) cs3) Z) Z) Z
end
section
variable {ρ : DL.Env} {cs : Cs} {P : DP} {Z : XZ} {wo wk wz : DL.WE} {w : WA} {p : Addr} {kvs more : List (Key × D)}
theorem r_mtD {o : DMt} (h : wo ρ cs (fun x cs1 => isDM x cs1 ∧ w ρ cs1 (fun ds cs2 => o x ds cs2 P) Z) Z) : wMtD o wo w ρ cs P Z := h
theorem r_isDM (hl : look p cs = some (.dic kvs)) {R : Prop} (h : R) : isDM (.opq (.ref p)) cs ∧ R := ⟨by unfold isDM; simp only [hl], h⟩
theorem r_updH (hz : kvs.length + more.length ≤ 100000) (h : P .non ((p, .dic (mergeD kvs more)) :: cs)) : oUpd (.opq (.ref p)) [.dic more] ((p, .dic kvs) :: cs) P := ⟨p, kvs, more, rfl, by simp [look], rfl, hz, by rw [put_hd]; exact h⟩
theorem r_get2 (h : wo ρ cs (fun x cs1 => (∃ dd, ddAt x cs1 = some dd) ∧ wk ρ cs1 (fun k cs2 => wz ρ cs2 (fun z cs3 => ∃ o, getV x k cs3 = some o ∧ P (o.getD z) cs3) Z) Z) Z) : wGet2 wo wk wz ρ cs P Z := h
theorem r_ddK {R : Prop} (h : R) : (∃ dd, ddAt (.dic kvs) cs = some dd) ∧ R := ⟨⟨.inl kvs, rfl⟩, h⟩
theorem r_ddM (hl : look p cs = some (.dic kvs)) {R : Prop} (h : R) : (∃ dd, ddAt (.opq (.ref p)) cs = some dd) ∧ R := ⟨⟨.inl kvs, by simp [ddAt, hl]⟩, h⟩
theorem r_gvKI {i : Int} {R : Option D → Prop} (h : R (lk kvs (.inl i))) : ∃ o, getV (.dic kvs) (.int i) cs = some o ∧ R o := ⟨_, by simp [getV, ddAt, kOf], h⟩
theorem r_gvKS {x : Str} {R : Option D → Prop} (h : R (lk kvs (.inr x))) : ∃ o, getV (.dic kvs) (.str x) cs = some o ∧ R o := ⟨_, by simp [getV, ddAt, kOf], h⟩
theorem r_gvMI {i : Int} {R : Option D → Prop} (hl : look p cs = some (.dic kvs)) (h : R (lk kvs (.inl i))) : ∃ o, getV (.opq (.ref p)) (.int i) cs = some o ∧ R o := ⟨_, by simp [getV, ddAt, hl, kOf], h⟩
theorem r_gvMS {x : Str} {R : Option D → Prop} (hl : look p cs = some (.dic kvs)) (h : R (lk kvs (.inr x))) : ∃ o, getV (.opq (.ref p)) (.str x) cs = some o ∧ R o := ⟨_, by simp [getV, ddAt, hl, kOf], h⟩
end
end DL
namespace DL
open PySem PySem.Spec PyProof.Rows L2
/-- e is come to by rows of shapes below r -/
inductive Rch (sh : Nat → Nat → Rat) (n : Nat) (r : Rat) : Nat → Prop
  | zero : Rch sh n r 0
  | step {f e : Nat} : Rch sh n r f → f < e → e ≤ n → sh f e < r → Rch sh n r e
section
variable {sh : Nat → Nat → Rat} {n : Nat} {r : Rat}
theorem Rch.le {e : Nat} (h : Rch sh n r e) : e ≤ n := by
  cases h with
  | zero => exact Nat.zero_le _
  | step _ _ h _ => exact h
end
section
variable {cs : Cs} {P : DP} {s : Int} {ss : List Int} {x : Str} {xs : List Str}
theorem r_inLI (h : P (.bl (decide (s ∈ ss))) cs) : oIn (.int s) (.lst (ss.map D.int)) cs P := .inr ⟨s, ss, rfl, .inr rfl, h⟩
theorem r_inTI (h : P (.bl (decide (s ∈ ss))) cs) : oIn (.int s) (.tup (ss.map D.int)) cs P := .inr ⟨s, ss, rfl, .inl rfl, h⟩
theorem r_niLI (h : P (.bl (!decide (s ∈ ss))) cs) : oNotIn (.int s) (.lst (ss.map D.int)) cs P := .inr ⟨s, ss, rfl, .inr rfl, h⟩
theorem r_niTI (h : P (.bl (!decide (s ∈ ss))) cs) : oNotIn (.int s) (.tup (ss.map D.int)) cs P := .inr ⟨s, ss, rfl, .inl rfl, h⟩
theorem r_inLS (h : P (.bl (decide (x ∈ xs))) cs) : oIn (.str x) (.lst (xs.map D.str)) cs P := .inl ⟨x, xs, rfl, .inr rfl, h⟩
theorem r_niLS (h : P (.bl (!decide (x ∈ xs))) cs) : oNotIn (.str x) (.lst (xs.map D.str)) cs P := .inl ⟨x, xs, rfl, .inr rfl, h⟩
end
theorem r_eqNil {ns : List Int} {cs : Cs} {P : DP} (hl : ns.length ≤ 100000) (h : P (.bl ns.isEmpty) cs) : oEq (.lst (ns.map D.int)) (.lst []) cs P := ⟨plD_ints ns hl, rfl, by
  have e : eqD (.lst (ns.map D.int)) (.lst []) = ns.isEmpty := by
    unfold eqD
    cases ns <;> simp [eqL]
  rw [e]; exact h⟩
def r6 : Rat := ⟨1, 1000000, by decide, by decide⟩
end DL
namespace DL
open PySem PySem.Spec PyProof.Rows L2
section
variable {X : Cx} {W : WX} {K : PySem.W.Frag} {σ : L2.St} {H : Hp} {a b e : Expr} {wa wb we : DL.WE} {pos : Pos}
theorem any_eqv (d : D) (hd : plD 20 d = true) : ∀ xs : List D, plL 20 xs = true → ((pyL xs).any fun z => PyData.eqv z (pyD d)) = xs.any fun z => eqD z d
  | [], _ => by simp [pyL]
  | x :: xs, h => by
    simp only [plL, Bool.and_eq_true] at h
    simp only [pyL, List.any_cons]
    rw [any_eqv d hd xs h.2, eqD_eqv x d 20 20 h.1 hd]
/-- tuples of ints -/
def tupI (k : List Int) : D := .tup (k.map D.int)
def wLenSet (we : DL.WE) : DL.WE := fun ρ cs P Z => we ρ cs (fun d cs1 => ∃ ks : List (List Int), lstOf cs1 d = some (ks.map tupI) ∧ ks.length < 64 ∧ ∀ m : Nat, (ks.Nodup → m = ks.length) → (¬ ks.Nodup → m < ks.length) → P (.int (m : Int)) cs1) Z
theorem RepL.tups {G : Hp} : ∀ {vs : List V} {ks : List (List Int)}, RepL K G vs (ks.map tupI) → ∃ zs : List (Addr × List Int), vs = zs.map (fun z => V.ref z.1) ∧ zs.map (·.2) = ks ∧ ∀ z ∈ zs, SqT K G z.1 (z.2.map V.int)
  | vs, [], h => by
    cases h
    exact ⟨[], rfl, rfl, fun _ h => (nomatch h)⟩
  | vs, k :: ks, h => by
    rw [List.map_cons] at h
    cases h with
    | @cons v vs _ _ h r =>
    cases h with
    | @tup q xs _ e rl =>
    obtain ⟨zs, h1, h2, h3⟩ := RepL.tups r
    refine ⟨(q, k) :: zs, by rw [h1]; rfl, by rw [List.map_cons, h2], fun z hz => ?_⟩
    rcases List.mem_cons.mp hz with e' | e'
    · rw [e']; show SqT K G q (k.map V.int); rw [← RepL.intsL k rl]; exact e
    · exact h3 z e'
end
section
variable {ρ : DL.Env} {cs : Cs} {P : DP} {Z : XZ} {we : DL.WE} {xs : List D} {d : D} {p : Addr}
theorem r_lenSet (h : we ρ cs (fun d cs1 => ∃ ks : List (List Int), lstOf cs1 d = some (ks.map tupI) ∧ ks.length < 64 ∧ ∀ m : Nat, (ks.Nodup → m = ks.length) → (¬ ks.Nodup → m < ks.length) → P (.int (m : Int)) cs1) Z) : wLenSet we ρ cs P Z := h
end
end DL
namespace DL
open PySem PySem.Spec PyProof.Rows L2
/-- rows from f to n, each let by R -/
inductive LWay (R : Nat → Nat → Prop) (n : Nat) : Nat → List Nat → Prop
  | nil : LWay R n n []
  | cons {f z : Nat} {zs : List Nat} : 1 ≤ z → f + z ≤ n → R f (f + z) → LWay R n (f + z) zs → LWay R n f (z :: zs)
/-- their cost -/
def wc (c : Nat → Nat → Int) : Nat → List Nat → Int
  | _, [] => 0
  | f, z :: zs => c f (f + z) + wc c (f + z) zs
/-- k is the least cost -/
structure IsC (R : Nat → Nat → Prop) (c : Nat → Nat → Int) (n f : Nat) (k : Int) : Prop where
  is : ∃ zs, LWay R n f zs ∧ wc c f zs = k
  le : ∀ zs, LWay R n f zs → k ≤ wc c f zs
section
variable {R : Nat → Nat → Prop} {c : Nat → Nat → Int} {n f : Nat} {k l : Int} {zs : List Nat}
theorem LWay.way (h : LWay R n f zs) : Way n f zs := by
  induction h with
  | nil => exact .nil
  | cons h1 h2 _ _ ih => exact .cons h1 h2 ih
theorem LWay.end_ (h : LWay R n n zs) : zs = [] := h.way.end_
theorem IsC.uniq (h : IsC R c n f k) (h' : IsC R c n f l) : k = l := by
  obtain ⟨zs, w, e⟩ := h.is
  obtain ⟨zs', w', e'⟩ := h'.is
  have h1 := h.le zs' w'
  have h2 := h'.le zs w
  omega
theorem IsC.end_ : IsC R c n n 0 := ⟨⟨[], .nil, rfl⟩, fun zs h => by rw [h.end_]; exact Int.le_refl _⟩
end
structure KOk (ks : List (Int × Int)) (n : Nat) : Prop where
  in_ : ∀ p ∈ ks, 0 ≤ p.1 ∧ 1 ≤ p.2 ∧ p.1 + p.2 ≤ n
  nd : ks.Nodup
  len : ks.length < 64
theorem KOk.sub {ks ls : List (Int × Int)} {n : Nat} (h : KOk ks n) (p : ls.Sublist ks) : KOk ls n := ⟨fun x hx => h.in_ x (p.subset hx), p.nodup h.nd, Nat.lt_of_le_of_lt p.length_le h.len⟩
section
variable {sh : Nat → Nat → Rat} {n : Nat} {r r' : Rat} {ks ls : List (Int × Int)} {f : Nat} {zs : List Nat}
theorem Way.len {ys : List Nat} (h : Way n f ys) : f + ys.length ≤ n := by
  induction h with
  | nil => exact Nat.le_refl _
  | cons h1 h2 _ ih => rw [List.length_cons]; omega
end
def sGoneA (u : WS) : WS := fun f ρ cs => u { f with nx := fun ρ' cs' => ∃ p m, look p cs' = some m ∧ f.nx ρ' (del p cs') } ρ cs
section
variable {ρ : DL.Env} {cs : Cs} {u : WS} {nx bk ct : DL.Env → Cs → Prop} {rt : D → Cs → Prop} {ex : Exn → DL.Env → Cs → Prop}
theorem q_goneA (h : u ⟨fun ρ' cs' => ∃ p m, look p cs' = some m ∧ nx ρ' (del p cs'), rt, ex, bk, ct⟩ ρ cs) : sGoneA u ⟨nx, rt, ex, bk, ct⟩ ρ cs := h
theorem r_goneEx {p : Addr} {m : MO} (h : nx ρ cs) : ∃ q m', look q ((p, m) :: cs) = some m' ∧ nx ρ (del q ((p, m) :: cs)) := ⟨p, m, look_hd, by rw [del_hd]; exact h⟩
end
section
variable {R : Nat → Nat → Prop} {c : Nat → Nat → Int} {f e g : Nat} {k : Int} {zs : List Nat}
theorem LWay.snoc (h : LWay R f g zs) (h1 : f < e) (hr : R f e) : LWay R e g (zs ++ [e - f]) ∧ wc c g (zs ++ [e - f]) = wc c g zs + c f e := by
  induction h with
  | nil =>
    have e1 : f + (e - f) = e := by omega
    refine ⟨.cons (by omega) (by omega) (by rw [e1]; exact hr) (by rw [e1]; exact .nil), ?_⟩
    rw [List.nil_append, wc, wc, wc, e1]; omega
  | @cons g z zs z1 z2 z3 w ih =>
    obtain ⟨i1, i2⟩ := ih
    refine ⟨.cons z1 (by omega) z3 i1, ?_⟩
    rw [List.cons_append, wc, wc, i2]; omega
end
end DL
namespace DL
open PySem PySem.Spec PyProof.Rows L2
section
variable {X : Cx} {W : WX} {K : PySem.W.Frag} {e : Expr} {td : TE} {we : DL.WE} {apos cpos : Pos}
theorem RG.len {κ : Type} {G : Hp} {xs : List (κ × V)} {ds : List (κ × D)} (h : RG K G xs ds) : xs.length = ds.length := by
  induction h with
  | nil => rfl
  | cons _ _ ih => rw [List.length_cons, List.length_cons, ih]
def iItT (we : DL.WE) : WI := fun ρ cs P Z => we ρ cs (fun d cs1 => match d with
  | .dct kvs => P (kvs.map fun p => D.tup [D.tup (p.1.map kD), p.2]) cs1
  | _ => False) Z
def iItK (we : DL.WE) : WI := fun ρ cs P Z => we ρ cs (fun d cs1 => match d with
  | .dic kvs => P (kvs.map fun p => D.tup [kD p.1, p.2]) cs1
  | _ => False) Z
theorem r_itT {ρ : DL.Env} {cs : Cs} {R : List D → Cs → Prop} {Z : XZ} (h : we ρ cs (fun d cs1 => match d with
  | .dct kvs => R (kvs.map fun p => D.tup [D.tup (p.1.map kD), p.2]) cs1
  | _ => False) Z) : iItT we ρ cs R Z := h
theorem r_itK {ρ : DL.Env} {cs : Cs} {R : List D → Cs → Prop} {Z : XZ} (h : we ρ cs (fun d cs1 => match d with
  | .dic kvs => R (kvs.map fun p => D.tup [kD p.1, p.2]) cs1
  | _ => False) Z) : iItK we ρ cs R Z := h
end
section
variable {X : Cx} {W : WX} {K : PySem.W.Frag} {a b : Expr} {rest : List Expr} {pos : Pos} {wa wb : DL.WE}
def truD : D → Option Bool
  | .non => some false
  | .bl k => some k
  | .int i => some (i != 0)
  | .str x => if x.length ≤ 1000 then some ((x.length : Int) != 0) else none
  | .lst xs => some (!xs.isEmpty)
  | .tup xs => some (!xs.isEmpty)
  | _ => none
def wOrT (wa wb : DL.WE) : DL.WE := fun ρ cs P Z => wa ρ cs (fun x cs1 => ∃ k, truD x = some k ∧ (k = true → P x cs1) ∧ (k = false → wb ρ cs1 P Z)) Z
theorem r_orT {ρ : DL.Env} {cs : Cs} {P : DP} {Z : XZ} (h : wa ρ cs (fun x cs1 => ∃ k, truD x = some k ∧ (k = true → P x cs1) ∧ (k = false → wb ρ cs1 P Z)) Z) : wOrT wa wb ρ cs P Z := h
end
def sFrzA (i : Nat) (u : WS) : WS := fun f ρ cs => u { f with nx := fun ρ' cs' => ∃ p xs, ρ'[i]? = some (some (.opq (.ref p))) ∧ look p cs' = some (.lst xs) ∧ f.nx (ρ'.set i (some (.lst xs))) (del p cs') } ρ cs
theorem set_same {α : Type} : ∀ {l : List α} {i : Nat} {x : α}, l[i]? = some x → l.set i x = l
  | [], _, _, e => by cases e
  | _ :: _, 0, _, e => by cases e; rfl
  | a :: l, i + 1, x, e => by rw [List.set_cons_succ, set_same (l := l) (i := i) e]
theorem ds_frzA {X : Cx} {W : WX} {st : Stmt} {u : WS} (i : Nat) (h : DS X W st u) : DS X W st (sFrzA i u) := PS.imp h fun E σ H hq => by
  obtain ⟨F, cs, ρ, f, s, re, hw, pe⟩ := hq
  refine ⟨F, cs, ρ, _, s, re, hw, ⟨fun H1 cs1 σ1 ρ1 s1 re1 h1 => ?_, pe.bk, pe.ct, pe.rt, pe.ex⟩⟩
  obtain ⟨p, xs, hi, hl, h2⟩ := h1
  obtain ⟨v, hv, rv⟩ := re1.get hi
  cases rv
  obtain ⟨s2, g2, o, ho, m⟩ := s1.frz hl
  cases o <;> try exact m.elim
  have re2 := (re1.mono g2).set (Rep.lst (SqL.of ho) m) i
  rw [set_same hv] at re2
  exact pe.nx H1 _ σ1 _ s2 re2 h2
theorem q_frzA {i : Nat} {ρ : DL.Env} {cs : Cs} {u : WS} {nx bk ct : DL.Env → Cs → Prop} {rt : D → Cs → Prop} {ex : Exn → DL.Env → Cs → Prop} (h : u ⟨fun ρ' cs' => ∃ p xs, ρ'[i]? = some (some (.opq (.ref p))) ∧ look p cs' = some (.lst xs) ∧ nx (ρ'.set i (some (.lst xs))) (del p cs'), rt, ex, bk, ct⟩ ρ cs) : sFrzA i u ⟨nx, rt, ex, bk, ct⟩ ρ cs := h
end DL
namespace DL
open PySem PySem.Spec PyProof.Rows L2 PySem.Calls PySem.W
section
variable {X : Cx}
inductive Ws (R : V → List Int → Prop) : List V → List (List Int) → Prop
  | nil : Ws R [] []
  | cons {v : V} {z : List Int} {vs : List V} {zs : List (List Int)} : R v z → Ws R vs zs → Ws R (v :: vs) (z :: zs)
theorem Ws.back {R : V → List Int → Prop} : ∀ {zs : List (List Int)} {us : List Value}, PySem.W.EachIs (fun u z => ∃ w, R w z ∧ L2.RelV w u) us zs → ∃ ws, Ws R ws zs ∧ Vals ws us
  | _, _, .nil => ⟨[], .nil, .nil⟩
  | _, _, .cons ⟨w, h, r⟩ hs => by
    obtain ⟨ws, h1, h2⟩ := Ws.back hs
    exact ⟨w :: ws, .cons h h1, .cons r h2⟩
theorem Ws.len {R : V → List Int → Prop} : ∀ {ws : List V} {zs : List (List Int)}, Ws R ws zs → ws.length = zs.length
  | _, _, .nil => rfl
  | _, _, .cons _ h => congrArg Nat.succ h.len
end
section
variable {K : PySem.W.Frag}
def zD (z : List Int) : D := .tup (z.map D.int)
end
end DL
namespace DL
open PySem PySem.Spec PyProof.Rows L2
/-- the chief behind i of them -/
def ChZ (w : List Int → Rat) (L : List (List Int)) (i j : Nat) (z : List Int) : Prop := j < i ∧ L[j]? = some z ∧ (∀ k y, k < i → L[k]? = some y → w z ≤ w y) ∧ ∀ k y, k < j → L[k]? = some y → w z < w y
theorem chZ_first {w : List Int → Rat} {L : List (List Int)} {i : Nat} {z : List Int} (h : L[i]? = some z) (hn : ∀ k y, k < i → L[k]? = some y → w z < w y) : ChZ w L (i + 1) i z :=
  ⟨by omega, h, fun k y hk hy => by
    by_cases e : k = i
    · rw [e, h] at hy; cases hy; exact Rat.le_refl
    · exact Rat.le_of_lt (hn k y (by omega) hy), hn⟩
theorem ChZ.keep {w : List Int → Rat} {L : List (List Int)} {i j : Nat} {z y : List Int} (h : ChZ w L i j z) (hy : L[i]? = some y) (hl : ¬ w y < w z) : ChZ w L (i + 1) j z := by
  obtain ⟨a1, a2, a3, a4⟩ := h
  refine ⟨by omega, a2, fun k x hk hx => ?_, a4⟩
  by_cases e : k = i
  · rw [e, hy] at hx; cases hx; exact Rat.not_lt.mp hl
  · exact a3 k x (by omega) hx
theorem ChZ.new {w : List Int → Rat} {L : List (List Int)} {i j : Nat} {z y : List Int} (h : ChZ w L i j z) (hy : L[i]? = some y) (hl : w y < w z) : ChZ w L (i + 1) i y := by
  obtain ⟨a1, a2, a3, a4⟩ := h
  exact chZ_first hy fun k x hk hx => Std.lt_of_lt_of_le hl (a3 k x hk hx)
/-- the chief among those that are let, behind i of them -/
def ChP (ok : List Int → Prop) (c : List Int → Int) (L : List (List Int)) (i j : Nat) (z : List Int) : Prop := j < i ∧ L[j]? = some z ∧ ok z ∧ (∀ k y, k < i → L[k]? = some y → ok y → c z ≤ c y) ∧ ∀ k y, k < j → L[k]? = some y → ok y → c z < c y
section
variable {ok : List Int → Prop} {c : List Int → Int} {L : List (List Int)} {i j : Nat} {z y : List Int}
theorem chP_first (h : L[i]? = some z) (hz : ok z) (hn : ∀ k y, k < i → L[k]? = some y → ok y → c z < c y) : ChP ok c L (i + 1) i z :=
  ⟨by omega, h, hz, fun k y hk hy ho => by
    by_cases e : k = i
    · rw [e, h] at hy; cases hy; exact Int.le_refl _
    · exact Int.le_of_lt (hn k y (by omega) hy ho), hn⟩
theorem ChP.keep (h : ChP ok c L i j z) (hy : L[i]? = some y) (hl : ok y → ¬ c y < c z) : ChP ok c L (i + 1) j z := by
  obtain ⟨a1, a2, a3, a4, a5⟩ := h
  refine ⟨by omega, a2, a3, fun k x hk hx ho => ?_, a5⟩
  by_cases e : k = i
  · rw [e, hy] at hx; cases hx; have := hl ho; omega
  · exact a4 k x (by omega) hx ho
theorem ChP.new (h : ChP ok c L i j z) (hy : L[i]? = some y) (ho : ok y) (hl : c y < c z) : ChP ok c L (i + 1) i y := by
  obtain ⟨a1, a2, a3, a4, a5⟩ := h
  exact chP_first hy ho fun k x hk hx ho => by have := a4 k x hk hx ho; omega
end
end DL
namespace DL
open PySem PySem.Spec PyProof.Rows L2 ClX
section
variable {X : Cx} {x m : Str} {C f : Addr} {mc : Value} {CX : CXT} {k : Nat} {fd : FuncData} {ps : List Str} {sp : Sp} {ds : List Value} {dvs : List V} {E : XK} {e : Expr} {es : List Expr} {t : TA} {p1 p2 pos : Pos}
theorem pe_cfun {pl : Sem Bool} (F : FnOk X.prog X.w X.K X.mg X.base CX k f fd ps sp) (hr : Room k X.A) (hg : Gl X x) (hm : X.mg x = some (.ref C)) (rC : CRead X.K C mc) (vC : CVal X.K C mc m (.ref f) (.ref f)) (hk : PySem.W.keepIn X.K (.ref f) = true)
    (hb : Binds X.K fd ps ds) (hd : Vals dvs ds) (hx : Passes CX X E) (ha : PA X (e :: es) t) (hdb : (x == ("__debug__" : Str)) = false := by decide)
    (hc : eval (.Call (.Attribute (.Name x p1) m p2) (e :: es) [] pos) X.env = (do
      let ov ← eval (.Name x p1) X.env
      standAt p2.atName
      let (f, first) ← holding [ov] (getMethod ov m pl)
      callWith pos f first (backTo pos (starEach (e :: es) X.env)) (backToKw pos (keywordEach [] X.env))) := by rfl)
    (he : starEach (e :: es) X.env = (false, eval e X.env) :: starEach es X.env := by rfl) (hpl : (backTo pos (starEach es X.env)).any (·.1) = false := by rfl) :
    PE X (.Call (.Attribute (.Name x p1) m p2) (e :: es) [] pos) (tCall sp dvs E t) := by
  refine ⟨fun pins s0 σ H Q I hq => ?_⟩
  refine PySem.W.methodCall_KW (ld_glob I hg hm (PySem.W.method_cls I.kIn rC.ga (getcval_ok I rC vC fun s1 J => ?_)) hdb) hc
  refine PySem.W.callWith_K (h₀ := X.base) J.ok.mod.kin hk (thn (ha.run pos pins s1 σ H _ J hq) fun us s2 hh => ?_) he hpl
  obtain ⟨vs, H1, I1, r1, q1⟩ := hh
  exact ⟨I1.kIn, run_fn F hr hb hd hx I1 r1 q1⟩
end
section
variable {X : Cx} {x : Str} {C fI : Addr} {CX : CXT} {k : Nat} {fd : FuncData} {ps : List Str} {sp : Sp} {ds : List Value} {dvs : List V} {p pos : Pos}
theorem pmk_oex0 (T : OexC X.K C) (iC : PySem.W.findIn X.K (.ref C) "__init__" = some (some (.ref fI))) (tI : PySem.W.typeIn X.K (.ref fI) = some (.type "function")) (FI : FnOk X.prog X.w X.K X.mg X.base CX k fI fd ps sp) (hr : Room (k + 1) X.A)
    (hb : Binds X.K fd ps ds) (hd : Vals dvs ds) (hx : Passes CX X (fun _ _ _ => False)) (hg : Gl X x) (hm : X.mg x = some (.ref C)) (hdb : (x == ("__debug__" : Str)) = false := by decide) : PMk X (.Call (.Name x p) [] [] pos) (tMkO C sp dvs tNil) := by
  intro pins s σ H Q I hq
  obtain ⟨nm, q, N, bs, bm, sn, sub, ab, col, dd, k0, k1, k2, k3, k5, hC, hbm⟩ := T.cls
  refine wpAny_Call_Name_kw (ld_glob I hg hm (PySem.W.callWith_K0 I.kIn T.kC ?_) hdb)
  obtain ⟨_, hq⟩ := hq
  obtain ⟨hp, g, dr, tk, os⟩ := s
  obtain ⟨b, hbe⟩ : ∃ b, b = hp.objs.size + 1 := ⟨_, rfl⟩
  have hsz : hp.objs.size ≤ b := by omega
  have hq2 := hq b (I.hok.fresh hsz)
  obtain ⟨G, hG⟩ : ∃ G, G = (hp.push (PySem.W.kdv_tup [])).push (PySem.HandSPX.excO C hp.objs.size) := ⟨_, rfl⟩
  have kk : ∀ c o, hp.get? c = some o → G.get? c = some o := fun c o z => by rw [hG]; exact Heap.get?_push_of_some _ (Heap.get?_push_of_some _ z)
  have at_ : G.get? b = some (PySem.HandSPX.excO C hp.objs.size) := by rw [hG, hbe]; heap_get
  have J : L2.Inv X pins σ (upd H b (exo b C none)) ⟨G, g, dr, tk, os⟩ := I.laid (t' := tk) kk hsz (exo_ok at_)
  have rv : Vals (V.ref b :: ([] ++ dvs)) ([Value.ref b] ++ ds) := .cons rfl hd
  have hl : ([Value.ref b] ++ ds).length = ps.length := by
    have z := rv.length
    rw [FI.len _ _ _ _ hq2] at z
    exact z.symm
  have run := FI.run _ X.stack _ _ ⟨Value.ref b :: [], []⟩ ([Value.ref b] ++ ds) _ _ (fun _ _ _ => False) (hr.make C [] []) (J.env0.make C [] []) (hb _ (Value.ref b :: []) J.kIn hl) rv hq2
  rw [hG, hbe] at run
  refine wpAny_call (PySem.HandSPX.call_own F.excBase_ValueError (fun Y => PySem.HandSPX.refsVE_contains Y bm hbm) (I.kIn _ _ hC) (PySem.W.looks_findIn I.kIn iC) (fun self => PySem.W.bind_fn I.kIn self tI) (by simp) (codeAny_mono run fun r s' hr' => ?_))
  rw [← hG, ← hbe] at hr'
  cases r with
  | error er => exact hx pins σ _ _ er s' J hr'
  | ok fl =>
    cases fl with
    | ret u =>
      obtain ⟨v, H2, os2, bare2, un2, hok2, rv2, ev, d, fs, ea, ed, hd1, q2⟩ := hr'
      subst ev
      obtain ⟨h2, g2, d2, t2, os'⟩ := s'
      rw [← hbe]
      exact ⟨rv2, mk_end (raises_own T.exC T.tyC) I hsz kk un2 hok2 os2 bare2 ea ed hd1 q2⟩
    | next => exact False.elim hr'
    | brk => exact False.elim hr'
    | cont => exact False.elim hr'
end
/-- what is known of an own exception's class: its fields are no attributes of the class -/
structure XcC (K : PySem.W.Frag) (C : Addr) : Prop where
  o : OexC K C
  f : XfC K C
  called : PySem.W.findIn K (.ref C) "called" = some none
  at_ : PySem.W.findIn K (.ref C) "at" = some none
  name : PySem.W.findIn K (.ref C) "name" = some none
  what : PySem.W.findIn K (.ref C) "what" = some none
/-- __init__(self, ..): the fields are g of the arguments -/
def spX (K : PySem.W.Frag) (n : Nat) (g : List V → List (Str × V)) : Sp := fun vs H Q _ => ∃ (a C : Addr) (ws : List V), vs = .ref a :: ws ∧ ws.length = n ∧ XcC K C ∧ H a = some (exo a C none) ∧
  ∀ dx, H dx = none → dx ≠ a → Q .non (upd (upd H dx (exd dx (g ws))) a (exo a C (some dx)))
theorem spX_len {K : PySem.W.Frag} {n : Nat} {g : List V → List (Str × V)} : ∀ vs H Q E, spX K n g vs H Q E → vs.length = n + 1 := fun vs H Q E ⟨a, C, ws, e, l, _⟩ => by rw [e, List.length_cons, l]
theorem vV (K : PySem.W.Frag) : PySem.W.findCls K (.type "ValueError") (.type "type") "__init__" = some (.val (.builtin "ValueError.__init__")) := by kernel_rfl
section
variable {K : PySem.W.Frag} {vs : List V} {H : Hp} {Q : VK} {E : XK} {sp : Sp} {c fl : Str} {n : Nat}
/-- the base: ValueError.__init__(self, called); self.called = called -/
theorem base_read (h : spX K 1 (fun ws => [("called", ws.getD 0 .non)]) vs H Q E) : tSeq (tDrop (tVeI K (tCons (tVar 0) (tCons (tVar 1) tNil)))) (tOst K "called" (tVar 0) (tVar 1)) { nx := fun _ H' => Q .non H', rt := Q } (L2.start ["self", "called"] vs) H := by
  obtain ⟨a, C, ws, rfl, hl, T, ha, hq⟩ := h
  obtain ⟨v, rfl⟩ : ∃ v, ws = [v] := by
    match ws, hl with
    | [v], _ => exact ⟨v, rfl⟩
  refine ⟨.ref a, rfl, v, rfl, a, C, [v], rfl, by simp, T.o, ha, ?_⟩
  exact ⟨v, rfl, .ref a, rfl, a, C, rfl, T.o, T.called, .inl ⟨ha, hq⟩⟩
/-- over it: B.__init__(self, 'c') -/
theorem over_read (h : spX K 0 (fun _ => [("called", .str c)]) vs H Q E) : tDrop (tCall (spX K 1 fun ws => [("called", ws.getD 0 .non)]) [] (fun _ _ _ => False) (tCons (tVar 0) (tCons (tC (.str c)) tNil))) { nx := fun _ H' => Q .non H', rt := Q } (L2.start ["self"] vs) H := by
  obtain ⟨a, C, ws, rfl, hl, T, ha, hq⟩ := h
  obtain rfl : ws = [] := List.length_eq_zero_iff.mp hl
  exact ⟨.ref a, rfl, a, C, [.str c], rfl, rfl, T, ha, fun dx h1 h2 => hq dx h1 h2⟩
theorem noOut {X : Cx} : Passes (L2.CX X.prog X.w) X (fun _ _ _ => False) := fun _ _ _ _ _ _ _ z => by
  obtain ⟨_, _, _, _, _, _, _, _, _, _, _, _, z⟩ := z
  exact z.elim
end
def sRaise (n : Str) (g : List D → List (Str × D)) (w : WA) : WS := fun f ρ cs => w ρ cs (fun ds cs1 => f.ex ⟨n, g ds⟩ ρ cs1) (fun x cs1 => f.ex x ρ cs1)
/-- what the fields are, of values and of data -/
def FldOk (K : PySem.W.Frag) (gV : List V → List (Str × V)) (g : List D → List (Str × D)) : Prop := ∀ (G : Hp) (vs : List V) (ds : List D), RepL K G vs ds → RepX K G (gV vs) (g ds)
theorem mk_heap {H : Hp} {a d C : Addr} {fs : List (Str × V)} (h : H a = none) (hd : d ≠ a) : upd (L2.del (upd (upd (upd H a (exo a C none)) d (exd d fs)) a (exo a C (some d))) a) d (.xd fs) = upd H d (.xd fs) := by
  funext c
  by_cases h1 : c = d
  · subst h1; rw [upd_same, upd_same]
  · rw [upd_ne h1, upd_ne h1]
    by_cases h2 : c = a
    · subst h2; rw [L2.del_same, h]
    · rw [L2.del_ne h2, upd_ne h2, upd_ne h1, upd_ne h2]
section
variable {X : Cx} {W : WX} {K : PySem.W.Frag} {σ : L2.St} {H : Hp} {n : Str} {g : List D → List (Str × D)} {gV : List V → List (Str × V)} {dvs : List V} {dds : List D} {m l : Nat} {w : WA}
theorem raise_ok (hT : XcC K (He.ga K n)) (hg : FldOk K gV g) (hd : ∀ G, RepL K G dvs dds) (hm : m + dds.length = l) (hl : m ≤ 1000) {E : Ends} : lS K W (sRaise n (fun ds => g (ds ++ dds)) w) E σ H → tMkO (He.ga K n) (spX K l gV) dvs (lA K W m w) σ H (fun cls d H' => W cls d σ H') := by
  rintro ⟨F, cs, ρ, f, s, re, hw, pe⟩
  refine ⟨F, cs, ρ, _, _, s, re, hw, fun H1 cs1 vs ds s1 r1 l1 h1 => ?_, pe.px re⟩
  refine ⟨by rw [r1.length, l1]; exact hl, fun a ha => ⟨a, He.ga K n, vs ++ dvs, rfl, by rw [List.length_append, r1.length, l1, (hd H).length]; exact hm, hT, upd_same, fun dx h2 h3 => ?_⟩⟩
  have hdx : H1 dx = none := by rw [upd_ne h3] at h2; exact h2
  refine ⟨rfl, dx, _, upd_same, by rw [upd_ne h3, upd_same], hdx, ?_⟩
  rw [mk_heap ha h3]
  obtain ⟨s2, e2⟩ := s1.new (o := .xd (gV (vs ++ dvs))) hdx
  refine pe.ex _ cs1 σ ρ ⟨n, g (ds ++ dds)⟩ _ (s2.from_ s1.gr) (re.mono (s1.gr.trans s2.gr)) ⟨dx, _, rfl, e2, (hg _ _ _ (r1.append (hd _))).mono s2.gr⟩ h1
variable {x : Str} {fI : Addr} {k : Nat} {fd : FuncData} {ps : List Str} {ds : List Value} {p pos pos' : Pos} {e : Expr} {es : List Expr}
/-- raise C() -/
theorem ds_raise0 (hc : X.calm = true) (tk : Takes X W) (hT : XcC X.K (He.ga X.K x)) (iC : PySem.W.findIn X.K (.ref (He.ga X.K x)) "__init__" = some (some (.ref fI))) (tI : PySem.W.typeIn X.K (.ref fI) = some (.type "function"))
    (FI : FnOk X.prog X.w X.K X.mg X.base (L2.CX X.prog X.w) k fI fd ps (spX X.K l gV)) (hr : Room (k + 1) X.A) (hb : Binds X.K fd ps ds) (hd : Vals dvs ds) (hdd : ∀ G, RepL X.K G dvs dds) (hn : 0 + dds.length = l) (hg : FldOk X.K gV g) (hgl : Gl X x) (hm : X.mg x = some (.ref (He.ga X.K x)))
    (hdb : (x == ("__debug__" : Str)) = false := by decide) : DS X W (.Raise (some (.Call (.Name x p) [] [] pos)) none pos') (sRaise x (fun ds => g (ds ++ dds)) wNil) :=
  PS.imp (ps_raise hc tk (pmk_oex0 hT.o iC tI FI hr hb hd noOut hgl hm hdb)) fun E σ H h => by
    have z := raise_ok (m := 0) hT hg hdd hn (by decide) h
    obtain ⟨F, cs, ρ, P, Z, s, re, hw, pe, px⟩ := z
    exact pe H cs [] [] s .nil rfl hw
end
end DL
namespace DL
open PySem PySem.Spec PyProof.Rows L2 LamX
theorem Un.less {a : Addr} {fs : List Addr} {H H' : Hp} {h h' : Heap} (u : Un (a :: fs) [] H H' h h') (n : h.get? a = none) : Un fs [] H H' h h' := by
  have ne : ∀ {b : Addr} {o : Obj}, h.get? b = some o → b ≠ a := fun {b o} e z => by
    rw [z, n] at e; cases e
  exact {
    keep := fun b o e q nf nx => u.keep b o e q (fun z => (List.mem_cons.mp z).elim (ne e) nf) nx
    slot := fun b o e q f nx => u.slot b o e q (List.mem_cons_of_mem _ f) nx
    free := u.free
    there := u.there
    tups := u.tups
    frzs := u.frzs
    tbls := u.tbls }
/-- what a table tells: each code object bears the name q -/
def TabT (H : Hp) (ps : Array Value) (q : Str) : Prop := TriplesOk ps.toList ∧ ∀ (pos : Pos) (cv : Value), codeAmong pos ps.toList = some cv → ∃ c, cv = .ref c ∧ H c = some (CodeO c q)
section
variable {X : Cx} {pins : List (Addr × Obj)} {σ : L2.St} {H : Hp} {s : Shared}
/-- the object of the lambda -/
abbrev lamO (X : Cx) (params : Arguments) (body : Expr) (scope : Scope) (pm ctv : Value) (c' : Addr) : Obj :=
  PySem.W.kla_obj "<lambda>" (X.env.qual ++ "<lambda>") params body scope (cloFrom X.env.cells scope.names []) pm c' ctv
/-- the heap behind the making: the same, or a code object more -/
inductive LamH (H : Hp) (P c' : Addr) (q : Str) (ps : Array Value) : Hp → Prop
  | hit : H c' = some (CodeO c' q) → LamH H P c' q ps H
  | new {p1 : Array Value} : H c' = none → TriplesOk p1.toList → (∀ (pos : Pos) (cv : Value), codeAmong pos p1.toList = some cv → codeAmong pos ps.toList = some cv ∨ cv = .ref c') → LamH H P c' q ps (upd (upd H P (.tbl p1)) c' (CodeO c' q))
theorem lam_make {c P : Addr} {ps : Array Value} {params : Arguments} {body : Expr} {scope : Scope} {pos : Pos} {E Q : Value → Shared → Prop} (I : Inv X pins σ H s) (TB : TabB X.base X.mg c P) (hcode : X.env.code = .ref c)
    (hP : H P = some (.tbl ps)) (hT : TabT H ps (X.env.qual ++ "<lambda>")) (hdef : defaultsOf params X.env = ([], [])) (hfree : ∀ y ∈ scope.names, y.2 = .free → ∃ c, X.env.cells.lookup y.1 = some c)
    (h : ∀ (f c' : Addr) (pm ctv : Value) (H1 : Hp) (s' : Shared), Inv X pins σ H1 s' → LamH H P c' (X.env.qual ++ "<lambda>") ps H1 → s'.heap.get? f = some (lamO X params body scope pm ctv c') → H1 f = none → f ∉ frs X.stack → Q (.ref f) s') :
    wpAny (model X.prog X.w) X.A (eval (.Lambda params body scope pos) X.env) Q E s := by
  obtain ⟨tOk, tIn⟩ := hT
  have kB : s.heap.BuiltinsAt X.mg P := TB.bm.keeps I.bk
  have kC := TB.code.keeps I.bk
  have kG := I.mod.glob.keeps I.bk
  have obP : s.heap.get? P = some { cls := .none, data := .fields ps } := I.hok P _ hP
  have far : ∀ f, s.heap.objs.size ≤ f → f ∉ frs X.stack := fun f le z => by
    rcases List.mem_cons.mp (I.stkSub _ z) with e | e
    · exact Nat.lt_irrefl _ (Nat.lt_of_lt_of_le (e ▸ I.lt) le)
    · exact I.nofs le e
  apply PySem.W.kla_eval hdef
  rcases hc : codeAmong pos ps.toList with _ | cv
  · apply PySem.W.kla_makeFunction (mg := X.mg) (c := c) (P := P) (ps := ps) (closure_ok hfree) I.ok.glob kG hcode kC obP tOk hc TB.gP kB
    intro c' ctv h' tk ext cge clt crec tab
    obtain ⟨c2, oc, fvs, t, e2, hoc, hd, hv⟩ := crec
    cases e2
    have nc : H c' = none := I.hok.fresh cge
    have le : s.heap.objs.size ≤ h'.objs.size := Nat.le_trans cge (Nat.le_of_lt clt)
    have J := inv_table (t' := tk) (q := X.env.qual ++ "<lambda>") (more := #[rawInt pos.line, rawInt pos.col, .ref c']) (h' := h'.push (lamO X params body scope ((X.mg "__name__").getD .none) ctv c')) I hP
      (fun b o hb e => Heap.get?_push_of_some _ (ext b o hb e)) (Heap.get?_push_of_some _ tab) cge ⟨oc, fvs, t, Heap.get?_push_of_some _ hoc, hd, hv⟩
    have eL : (ps ++ #[rawInt pos.line, rawInt pos.col, .ref c']).toList = ps.toList ++ [rawInt pos.line, rawInt pos.col, .ref c'] := by simp
    refine h h'.objs.size c' _ ctv _ _ J (.new nc ?_ fun p' cv z => ?_) (Heap.get?_push_size _ rfl) ?_ (far _ le)
    · rw [eL]; exact PySem.TriplesOk_snoc _ _ _ _ tOk
    · rw [eL] at z; exact among_app _ tOk z
    · have a1 : h'.objs.size ≠ c' := Nat.ne_of_gt clt
      have a2 : h'.objs.size ≠ P := Nat.ne_of_gt (Nat.lt_of_lt_of_le (Heap.lt_size obP) le)
      rw [upd_ne a1, upd_ne a2]
      exact I.hok.fresh le
  · obtain ⟨c', rfl, hco⟩ := tIn pos cv hc
    apply PySem.W.kla_makeFunctionHit (mg := X.mg) (c := c) (P := P) (ps := ps) (closure_ok hfree) I.ok.glob kG hcode kC obP tOk hc kB
    intro ctv h' tk ext le
    refine h h'.objs.size c' _ ctv H _ (I.kept (t' := tk) fun b o e => Heap.get?_push_of_some _ (ext b o e)) (.hit hco) (Heap.get?_push_size _ rfl) (I.hok.fresh le) (far _ le)
end
structure Thunk (P : Program) (w : World) (K : PySem.W.Frag) (mg : Str → Option Value) (base : Heap) (k : Nat) (fs : List Addr) (H : Hp) (s : Shared) (f c' : Addr) (q : Str) (t : XK → Hp → VK → Prop) : Prop where
  obj : ∃ o fd, s.heap.get? f = some o ∧ o.data = .func fd ∧ o.cls = .type "function" ∧ o.dict = none ∧ o.slots = #[]
  no : H f = none
  nf : f ∉ fs
  run : ∀ (A : Around) (outer : List PySem.Env) (s1 : Shared) (H1 : Hp) (Q : VK) (E : XK), Room k A → Env0 P w K mg base A outer s1 H1 → Un fs [] H H1 s.heap s1.heap → H1 c' = some (CodeO c' q) → t E H1 Q →
    codeAny (model P w) A (.call (.ref f) ⟨[], []⟩) (CR (L2.CX P w) outer P w H1 s1 Q E) s1
theorem lam_thunk {X : Cx} {pins : List (Addr × Obj)} {σ : L2.St} {H : Hp} {s : Shared} {f c' : Addr} {pm ctv : Value} {params : Arguments} {body : Expr} {scope : Scope} {k : Nat} {t : XK → TE} (I : Inv X pins σ H s) (L : LamS X.env.scope scope)
    (hf : s.heap.get? f = some (lamO X params body scope pm ctv c')) (hfn : H f = none) (hfr : f ∉ frs X.stack)
    (hbind : ∀ (q : Str) (cl : List (Str × Addr)) (pm cv ctv : Value), bindArgs (PySem.W.kla_fn "<lambda>" q params body scope cl pm cv ctv) ⟨[], []⟩ = pure [])
    (hbody : ∀ (A : Around) (outer : List PySem.Env) (s : Shared) (H : Hp) (E : XK), Room k (A.deeper (lamEnv X scope s.heap.objs.size f c')) → PE (lamCx X A outer s H E scope f c') body (t E)) :
    Thunk X.prog X.w X.K X.mg X.base (k + 1) (frs X.stack) H s f c' (X.env.qual ++ "<lambda>") (fun E H Q => t E σ H Q) := by
  refine ⟨⟨_, _, hf, rfl, rfl, rfl, rfl⟩, hfn, hfr, fun A outer s1 H1 Q E hr e0 un hc ht => ?_⟩
  have of1 := un.keep f _ hf hfn hfr (by simp)
  obtain ⟨⟨oc, fvs, tx, hoc, hdc, hvc⟩, _, _⟩ := e0.hok c' _ hc
  have lim : s1.heap.NoLimit := e0.mod.nolimit.keeps fun b o e => (e0.bs b o e).1
  refine PySem.W.kla_callFunE hr.depth of1 rfl L.co L.gen rfl ⟨c', oc, fvs, tx, rfl, hoc, hdc, hvc⟩ ?_
  rw [hbind]
  refine wpAny_pure (wpAny_newFunctionEnv (fun y hy => (L.own y hy).2) (fun y hy => absurd hy (by simp)) (fun h1 hns hsb => ⟨lim.fresh _ hsb, ?_⟩) L.kind)
  have kp : ∀ b o, s1.heap.get? b = some o → h1.get? b = some o := fun b o e => hsb.extBut b o (Nat.ne_of_lt (Heap.lt_size e)) (Heap.get?_push_of_some _ e)
  have J := lam_start2 (E := E) (f := f) (c' := c') (tk := s1.toks + ([] : List (Str × Value)).length) I L e0 hr.hd un hns kp
  refine PySem.W.kla_codeExpr (wpAny_mono ((hbody _ _ s1 H1 E (hr.deeper _)).run [] _ _ H1 Q J ht) (fun v s' hq => ?_) fun e s' hq => hq)
  obtain ⟨w', H', J', rv, q⟩ := hq
  exact ⟨w', H', J'.os, J'.bare, J'.base, J'.hok, rv, q⟩
/-- x(), x a slot that holds the thunk; Z: the def that got it, entered at s -/
theorem pe_thunk {Z : Cx} {W : WX} {i k : Nat} {a : Str} {f c' : Addr} {q : Str} {t : XK → Hp → VK → Prop} {p1 p2 : Pos} (th : Thunk Z.prog Z.w Z.K Z.mg Z.base k Z.fs Z.H_0 Z.s_0 f c' q t) (hex : Z.ex = []) (tk : Takes Z W) (hr : Room k Z.A)
    (hN : Z.N[i]? = some a) (hv : Vis Z.env.scope a) (hd : (a == ("__debug__" : Str)) = false := by decide) (hcd : (a == ("__classdict__" : Str)) = false := by decide) :
    PE Z (.Call (.Name a p1) [] [] p2) (fun σ H Q => σ[i]? = some (some (.ref f)) ∧ H c' = some (CodeO c' q) ∧ ∃ (E' : XK) (Q' : VK), (∀ c d H, E' c d H → W c d σ H) ∧ (∀ v H, Q' v H → Q v H) ∧ t E' H Q') := by
  refine ⟨fun pins s σ H Q I h => ?_⟩
  obtain ⟨hs, hc, E', Q', hE, hQ, ht⟩ := h
  refine wpAny_Call_Name_kw (thn ((pe_var (pos := p1) (i := i) hN hv hd hcd).run pins s σ H (fun v H1 => v = .ref f ∧ H1 = H) I ⟨.ref f, hs, rfl, rfl⟩) fun u s1 ⟨v, H1, I1, r1, q1⟩ => ?_)
  obtain ⟨rfl, rfl⟩ := q1
  obtain rfl : u = Value.ref f := r1
  have un : Un Z.fs [] Z.H_0 H1 Z.s_0.heap s1.heap := hex ▸ I1.base
  obtain ⟨o, fd, o1, o2, o3, o4, o5⟩ := th.obj
  obtain ⟨oc, od, odt, osl⟩ := o
  subst o2 o3 o4 o5
  have of1 := un.keep f _ o1 th.no th.nf (by simp)
  refine PySem.W.callWith_F0 ⟨_, _, _, _, of1⟩ (wpAny_call (codeAny_mono (th.run Z.A Z.stack s1 H1 Q' E' hr I1.env0 un hc ht) fun r s' hq => ?_))
  cases r with
  | error e => exact tk e s' (XE.of_call I1 (fun c d H z => hE c d H z) hq)
  | ok fl => cases fl <;> first | exact (fun ⟨v, H', J, rv, z⟩ => ⟨v, H', J, rv, hQ v H' z⟩ : EP Z pins σ Q' _ _ → EP Z pins σ Q _ _) (I1.after hq) | exact False.elim hq
/-- TT: what it makes of the thunk's reading; it wants j rooms more than the thunk -/
def TkOk (P : Program) (w : World) (K : PySem.W.Frag) (mg : Str → Option Value) (base : Heap) (j : Nat) (g : Addr) (TT : (XK → Hp → VK → Prop) → XK → Hp → VK → Prop) : Prop :=
  ∀ (k : Nat) (A : Around) (outer : List PySem.Env) (s : Shared) (H : Hp) (f c' : Addr) (q : Str) (t : XK → Hp → VK → Prop) (Q : VK) (E : XK), Room (k + j) A → Env0 P w K mg base A outer s H → Thunk P w K mg base k (frs outer) H s f c' q t → H c' = some (CodeO c' q) → TT t E H Q →
    codeAny (model P w) A (.call (.ref g) ⟨[.ref f], []⟩) (CR (L2.CX P w) outer P w H s Q E) s
theorem tk_of {P : Program} {w : World} {K : PySem.W.Frag} {mg : Str → Option Value} {base : Heap} {j : Nat} {x : Str} {params : Arguments} {body : List Stmt} {scope : Scope} {g : Addr} {fd : FuncData} {TT : (XK → Hp → VK → Prop) → XK → Hp → VK → Prop} {N : List Str} {a : Str}
    (F : FunD K x x params body scope [] [] g fd) (S : FnScope N [a] scope) (hb : Binds K fd [a] [])
    (hbody : ∀ (k : Nat) (cdv : Value) (A : Around) (outer : List PySem.Env) (s : Shared) (H : Hp) (f c' : Addr) (q : Str) (t : XK → Hp → VK → Prop) (Q : VK) (E : XK), Room (k + j) (A.deeper (envOfC x scope s.heap.objs.size g cdv)) → Thunk P w K mg base k (frs outer) H s f c' q t → H c' = some (CodeO c' q) → TT t E H Q →
      ∃ u, PSs (cxD P w K mg base N x scope g cdv A outer s H E) body u ∧ u { nx := fun _ H' => Q .non H', rt := Q } (L2.start N [.ref f]) H) : TkOk P w K mg base (j + 1) g TT := by
  intro k A outer s H f c' q t Q E hr e0 th hc h
  obtain ⟨oc, od, dV, kV, doc, pm, an, cdv, ct, osl, rfl, lk, hcd, _, _⟩ := F.ex
  have kin : K.In s.heap := e0.mod.kin.keeps fun b o e => (e0.bs b o e).1
  exact run_ofS (k := k + j) (us := [.ref f]) (vs := [.ref f]) lk hcd S hr e0 (hb s [.ref f] kin rfl) (.cons rfl .nil) rfl fun hr' => hbody k cdv A outer s H f c' q t Q E hr' th hc h
section
variable (K : PySem.W.Frag) (Wout : WX) (D : Ends)
/-- the ends behind a clause: its name goes -/
def endsN : Option Nat → Ends
  | none => D
  | some i => { nx := fun σ H => D.nx (σ.set i none) H, rt := D.rt, bk := fun σ H => D.bk (σ.set i none) H, ct := fun σ H => D.ct (σ.set i none) H }
def slotN (a : Addr) (σ : L2.St) : Option Nat → L2.St
  | none => σ
  | some i => σ.set i (some (.ref a))
/-- what the clauses wish, one behind another: the class, the name's slot, the suite -/
def wCls : List (Value × Option Nat × (Addr → Value → Option Addr → TS)) → WX
  | [] => Wout
  | (c, oi, ts) :: r => fun cls d σ H => ∃ b, PySem.W.exmOne K cls c = some b ∧ (b = true → ∀ a, H a = none → ts a cls d (endsN D oi) (slotN a σ oi) H) ∧ (b = false → wCls r cls d σ H)
end
/-- a clause's name -/
inductive NameN (X : Cx) : Option Str → Option Nat → Prop
  | no : NameN X none none
  | yes {n : Str} {i : Nat} : X.N[i]? = some n → X.env.kindOf n = some .local → NameN X (some n) (some i)
inductive ClsOk (X : Cx) : List ExceptHandler → List (Value × Option Nat × (Addr → Value → Option Addr → TS)) → Prop
  | nil : ClsOk X [] []
  | cons {x : Str} {c : Value} {on : Option Str} {oi : Option Nat} {ts : Addr → Value → Option Addr → TS} {b0 : Stmt} {su : List Stmt} {p1 p2 : Pos} {hs : List ExceptHandler} {l : List (Value × Option Nat × (Addr → Value → Option Addr → TS))} (hc : Names X x c) (hn : NameN X on oi)
      (hsu : ∀ (a : Addr) (ob : Obj) (cls : Value) (d : Option Addr) (pn : List (Addr × Obj)), Zc cls d ob → (∃ vs, ob.data = .fields vs) → PSs (X.suite a ((a, ob) :: pn)) (b0 :: su) (ts a cls d)) (r : ClsOk X hs l) :
      ClsOk X (.ExceptHandler (some (.Name x p1)) on (b0 :: su) p2 :: hs) ((c, oi, ts) :: l)
section
variable {X : Cx} {body : List Stmt} {h0 : ExceptHandler} {hs : List ExceptHandler} {l : List (Value × Option Nat × (Addr → Value → Option Addr → TS))} {pos : Pos} {tb : WX → TS} {Wout : WX}
/-- behind a suite with a name: the context of the whole statement again -/
theorem suite_end {pins : List (Addr × Obj)} {D : Ends} {a : Addr} {ob : Obj} {i : Nat} {n : Str} {f : Flow} {s6 : Shared} {p2 : Pos} (ok : X.Ok) (hN : X.N.Nodup) (hi : X.N[i]? = some n) (hk : X.env.kindOf n = some .local)
    (h : SP (X.suite a ((a, ob) :: (X.pn ++ pins))) [] (endsN D (some i)) f s6) : wpAny (model X.prog X.w) X.A (do bindName X.env n .none; unbindBehindTheSuite X.env n p2) (fun _ s7 => SP X pins D f s7) X.xe s6 := by
  cases f with
  | ret u => obtain ⟨v, σ6, H6, S6, r6, q6⟩ := h; exact gone_ok (S6.unsuite ok) hN hi hk fun s7 J => ⟨_, _, _, J, r6, q6⟩
  | next => obtain ⟨σ6, H6, S6, q6⟩ := h; exact gone_ok (S6.unsuite ok) hN hi hk fun s7 J => ⟨_, _, J, q6⟩
  | brk => obtain ⟨σ6, H6, S6, q6⟩ := h; exact gone_ok (S6.unsuite ok) hN hi hk fun s7 J => ⟨_, _, J, q6⟩
  | cont => obtain ⟨σ6, H6, S6, q6⟩ := h; exact gone_ok (S6.unsuite ok) hN hi hk fun s7 J => ⟨_, _, J, q6⟩
theorem ps_try_cls (hst : X.stack = X.env :: X.outer) (hf : X.env.frame = some X.env.locals) (hN : X.N.Nodup) (tk : Takes X Wout)
    (hb : ∀ (W : WX) (pn : List (Addr × Obj)) (xe : Value → Shared → Prop), Takes (X.tr pn xe) W → PassesOwn (model X.prog X.w) X.A X.env xe → PSs (X.tr pn xe) body (tb W))
    (hh : ClsOk X (h0 :: hs) l) : PS X (.Try body (h0 :: hs) [] [] pos) (fun D σ H => tb (wCls X.K Wout D l) D σ H) := by
  refine ⟨fun pins s σ H D I h => ?_⟩
  have ok := I.ok
  have hfr : X.A.frames = some (X.env :: X.outer) := by rw [ok.frames, hst]
  apply wpAny_Try_except
  let xe' : Value → Shared → Prop := fun e s₁ => wpAny (model X.prog X.w) X.A (noteFrame e X.env) (fun _ s₂ => wpAny (model X.prog X.w) X.A (setFlight e none)
    (fun _ s₃ => wpAny (model X.prog X.w) X.A (handleBy e X.env (h0 :: hs)) (SP X pins D) X.xe s₃) X.xe s₂) X.xe s₁
  have tk' : Takes (X.tr (X.pn ++ pins) xe') (wCls X.K Wout D l) := by
    rintro u s' ⟨a, B, sI, pins', σ', H', cls, d, rfl, J', nb, up, sky, na, os, ag, w⟩
    have J : Inv X pins σ' H' sI := J'.ofTry ok
    have sk : Sky B (X.env :: X.outer) a (Zc cls d) X.env.locals s'.heap := hst ▸ sky
    refine Sky.land Zc.steady hfr hf sk fun h3 fl3 up3 => ?_
    have J3 : Inv X pins σ' H' { s' with heap := h3 } := J.landed nb fl3.1 (up.trans up3) os ag
    obtain ⟨ob3, vs3, hob3, hz3, hd3⟩ := fl3.there
    have nfr : a ∉ frs (X.env :: X.outer) := fun hm => by
      obtain ⟨_, o', e', hnf⟩ := fl3.2.2.1.mem hm
      rw [hob3] at e'; cases e'
      exact hnf _ hd3
    have nL : a ≠ X.env.locals := fun z => nfr (List.mem_filterMap.mpr ⟨X.env, List.mem_cons_self, by rw [hf, z]⟩)
    have nF : a ∉ X.fs := fun hm => by
      obtain ⟨e, he, q⟩ := List.mem_filterMap.mp hm
      exact nfr (List.mem_filterMap.mpr ⟨e, List.mem_cons_of_mem _ he, q⟩)
    have S3 := J3.suite hob3 hd3 na nL nF
    have go : ∀ {hs' : List ExceptHandler} {l' : List (Value × Option Nat × (Addr → Value → Option Addr → TS))}, ClsOk X hs' l' → wCls X.K Wout D l' cls d σ' H' →
        wpAny (model X.prog X.w) X.A (handleBy (.ref a) X.env hs') (SP X pins D) X.xe { s' with heap := h3 } := by
      intro hs' l' hk
      induction hk with
      | nil =>
        intro w
        apply wpAny_handleBy_nil
        obtain ⟨k1, k2, k3, ob, vs, T, oT, ts', hob, hz, hd, h1, hr⟩ := id fl3
        unfold PySem.passOn
        refine wpAny_bind (wpAny_field hob hd h1 ?_)
        rw [if_neg (show ¬ ((Value.ref T == Value.none) = true) from by simp)]
        have fin : wpAny (model X.prog X.w) X.A (setFlight (.ref a) X.env.frame) (fun _ s4 => wpAny (model X.prog X.w) X.A (throw (.ref a) : Sem Flow) (SP X pins D) X.xe s4) X.xe { s' with heap := h3 } := by
          rw [hf]
          refine HandSPX.setFlight_upZ fl3 fun h4 hh4 up4 => wpAny_throw (tk _ _ ⟨a, B, sI, pins, σ', H', cls, d, rfl, J, nb, (up.trans up3).trans up4, ?_, na, os, ag, w⟩)
          rw [hst]; exact .inr (.inr hh4)
        first
          | exact wpAny_bind (wpAny_pure (wpAny_bind fin))
          | exact wpAny_bind fin
      | @cons x c on oi ts b0 su p1 p2 hs2 l2 hc hn hsu r ih =>
        rintro ⟨b, hb1, hyes, hnot⟩
        refine wpAny_handleBy_cons (codeAny_handlers_test ?_) (by intro q; cases q)
        have LT : PySem.W.Looks (model X.prog X.w) h3 (typeOf (.ref a)) cls := fun A Q E s k q => wpAny_typeOf_ref (k _ _ hob3) (by rw [hz3.1]; exact q)
        have LM := PySem.W.exm_one (M := model X.prog X.w) J3.kIn LT hb1
        have test : ∀ {Q E : Value → Shared → Prop}, Q c { s' with heap := h3 } → wpAny (model X.prog X.w) (X.A.mark (some (.ref a))) (eval (.Name x p1) X.env) Q E { s' with heap := h3 } := fun {Q E} q => by
          obtain ⟨hg, hdbg, hm | ⟨hm, hv, hnn⟩⟩ := hc
          · exact ld_glob (X := X.suite a ((a, ob3) :: (X.pn ++ pins))) S3 hg hm q hdbg
          · exact ld_blt (X := X.suite a ((a, ob3) :: (X.pn ++ pins))) S3 hg hm hv q hnn hdbg
        refine test (LM.here ?_)
        cases b with
        | false => exact ih (hnot rfl)
        | true =>
          cases hn with
          | no =>
            apply codeAny_handlers_suite
            refine HandSPX.lands_againZ fl3 fun h4 fl4 up4 => ?_
            have J4 : Inv X pins σ' H' { s' with heap := h4 } := J.landed nb fl4.1 ((up.trans up3).trans up4) os ag
            obtain ⟨ob4, vs4, hob4, hz4, hd4⟩ := fl4.there
            refine wpAny_mono ((hsu a ob4 cls d (X.pn ++ pins) hz4 ⟨_, hd4⟩).run [] _ σ' H' (endsN D none) (J4.suite hob4 hd4 na nL nF) (hyes rfl a na)) (fun f s6 hsp => ?_) (fun _ _ z => False.elim z)
            cases f with
            | ret u => obtain ⟨v, σ6, H6, S6, r6, q6⟩ := hsp; exact ⟨_, _, _, S6.unsuite ok, r6, q6⟩
            | next => obtain ⟨σ6, H6, S6, q6⟩ := hsp; exact ⟨_, _, S6.unsuite ok, q6⟩
            | brk => obtain ⟨σ6, H6, S6, q6⟩ := hsp; exact ⟨_, _, S6.unsuite ok, q6⟩
            | cont => obtain ⟨σ6, H6, S6, q6⟩ := hsp; exact ⟨_, _, S6.unsuite ok, q6⟩
          | yes hi hk =>
            apply codeAny_handlers_suite_as
            refine HandSPX.lands_againZ fl3 fun h4 fl4 up4 => ?_
            have J4 : Inv X pins σ' H' { s' with heap := h4 } := J.landed nb fl4.1 ((up.trans up3).trans up4) os ag
            obtain ⟨ob4, vs4, hob4, hz4, hd4⟩ := fl4.there
            refine store_ok (X := X.suite a ((a, ob4) :: (X.pn ++ pins))) (v := .ref a) (J4.suite hob4 hd4 na nL nF) hN hi (.inl hk) rfl (fun s5 S5 => ?_) (.inr hk)
            refine wpAny_mono ((hsu a ob4 cls d (X.pn ++ pins) hz4 ⟨_, hd4⟩).run [] s5 _ H' (endsN D (some _)) S5 (hyes rfl a na)) (fun f s6 hsp => ?_) (fun _ _ z => False.elim z)
            exact suite_end (D := D) ok hN hi hk hsp
    exact go hh w
  refine wpAny_mono ((hb (wCls X.K Wout D l) (X.pn ++ pins) xe' tk' PassesOwn.looking).run [] s σ H D (I.toTry _) h) (fun f s1 hsp => ?_) (fun e s1 he => he)
  cases f with
  | ret u => obtain ⟨v, σ', H', J', r, q⟩ := hsp; exact ⟨v, σ', H', J'.ofTry ok, r, q⟩
  | brk => obtain ⟨σ', H', J', q⟩ := hsp; exact ⟨σ', H', J'.ofTry ok, q⟩
  | cont => obtain ⟨σ', H', J', q⟩ := hsp; exact ⟨σ', H', J'.ofTry ok, q⟩
  | next => obtain ⟨σ', H', J', q⟩ := hsp; exact wpAny_execs_nil ⟨σ', H', J'.ofTry ok, q⟩
end
end DL
namespace DL
open PySem PySem.Spec PyProof.Rows L2 LamX
/-- TT lifted -/
def TkD (K : PySem.W.Frag) (TT : (XK → Hp → VK → Prop) → XK → Hp → VK → Prop) (T : DL.WE → DL.WE) : Prop :=
  ∀ (σ : L2.St) (E : XK) (we : DL.WE) (H : Hp) (Q : VK), lE K (fun cls d _ H => E cls d H) (T we) σ H Q → TT (fun E H' Q' => lE K (fun cls d _ H => E cls d H) we σ H' Q') E H Q
def wLam (p : Addr) (q : Str) (T : DL.WE → DL.WE) (we : DL.WE) : DL.WE := fun ρ cs P Z => look p cs = some (.tbl q) ∧ T we ρ cs P Z
theorem tbl_at {K : PySem.W.Frag} {F G0 H : Hp} {cs : Cs} {p : Addr} {q : Str} (s : Sta K F G0 cs H) (h : look p cs = some (.tbl q)) : ∃ ps, H p = some (.tbl ps) ∧ TabT (pur F cs H) ps q := by
  obtain ⟨o, e, z⟩ := s.look h
  cases o <;> first | exact ⟨_, e, z⟩ | exact z.elim
theorem TabT.le {H H' : Hp} {ps : Array Value} {q : Str} (t : TabT H ps q) (e : Ex H H') : TabT H' ps q := ⟨t.1, fun pos cv hc => by
  obtain ⟨c, e1, e2⟩ := t.2 pos cv hc
  exact ⟨c, e1, e _ _ e2⟩⟩
theorem sta_lam {K : PySem.W.Frag} {F H H1 : Hp} {cs : Cs} {p c' : Addr} {q : Str} {ps : Array Value} (s : Sta K F (pur F cs H) cs H) (hl : look p cs = some (.tbl q)) (hp : H p = some (.tbl ps)) (t : TabT (pur F cs H) ps q) (h : LamH H p c' q ps H1) :
    Sta K F (pur F cs H) cs H1 ∧ H1 c' = some (CodeO c' q) := by
  cases h with
  | hit e => exact ⟨s, e⟩
  | @new p1 hn hok hin =>
    obtain ⟨s1, e1⟩ := s.new (o := CodeO c' q) hn
    have hpc : p ≠ c' := ne_of_none hp hn
    have s2 := s1.put hl (m' := .tbl q) (o' := .tbl p1) ⟨hok, fun pos cv hc => by
      rcases hin pos cv hc with z | z
      · obtain ⟨c, a1, a2⟩ := t.2 pos cv z
        exact ⟨c, a1, s1.gr _ _ a2⟩
      · exact ⟨c', z, e1⟩⟩
    rw [put_look hl] at s2
    have e2 : upd (upd H c' (CodeO c' q)) p (.tbl p1) = upd (upd H p (.tbl p1)) c' (CodeO c' q) := by
      funext b
      by_cases h1 : b = p
      · subst h1; rw [upd_same, upd_ne hpc, upd_same]
      · by_cases h2 : b = c'
        · subst h2; rw [upd_ne h1, upd_same, upd_same]
        · rw [upd_ne h1, upd_ne h2, upd_ne h2, upd_ne h1]
    rw [e2] at s2
    exact ⟨s2.from_ s1.gr, upd_same⟩
section
variable {X : Cx} {W : WX}
theorem d_lam {j k : Nat} {TT : (XK → Hp → VK → Prop) → XK → Hp → VK → Prop} {T : DL.WE → DL.WE} {we : DL.WE} {g c pt : Addr} {q x : Str} {params : Arguments} {body : Expr} {scope : Scope} {p lpos pos : Pos} (tko : TkOk X.prog X.w X.K X.mg X.base j g TT) (td : TkD X.K TT T) (tk : Takes X W) (hr : Room (k + 1 + j) X.A)
    (hg : Gl X x) (hm : X.mg x = some (.ref g)) (hk : PySem.W.keepIn X.K (.ref g) = true) (TB : TabB X.base X.mg c pt) (hcode : X.env.code = .ref c) (L : LamS X.env.scope scope)
    (hbody : ∀ (A : Around) (outer : List PySem.Env) (s : Shared) (H : Hp) (E : XK) (f c' : Addr), Room k (A.deeper (lamEnv X scope s.heap.objs.size f c')) → DE (lamCx X A outer s H E scope f c') (fun cls d _ H => E cls d H) body we)
    (hq : X.env.qual ++ "<lambda>" = q := by rfl) (hdef : defaultsOf params X.env = ([], []) := by rfl)
    (hbind : ∀ (q : Str) (cl : List (Str × Addr)) (pm cv ctv : Value), bindArgs (PySem.W.kla_fn "<lambda>" q params body scope cl pm cv ctv) ⟨[], []⟩ = pure [] := by intros; rfl) (hdb : (x == ("__debug__" : Str)) = false := by decide) :
    DE X W (.Call (.Name x p) [.Lambda params body scope lpos] [] pos) (wLam pt q T we) := by
  refine ⟨fun pins s σ H Q I h => ?_⟩
  obtain ⟨F, cs, ρ, P, Z, st, re, ⟨hl, hw⟩, pe, px⟩ := h
  obtain ⟨ps, ht, tt⟩ := tbl_at st hl
  refine wpAny_Call_Name_kw (ld_glob I hg hm ?_ hdb)
  refine PySem.W.callWith_K (h₀ := X.base) I.ok.mod.kin hk ?_ (by rfl) (by rfl)
  show wpAny _ _ (spliced ((false, eval (.Lambda params body scope lpos) X.env) :: backTo pos (starEach [] X.env))) _ _ s
  refine Calls.spliced_cons (lam_make I TB hcode ht (hq ▸ tt.le pur_le) hdef (L.has I.ok) fun f c' pm ctv H1 s' I1 lh hf hfn hfr => Calls.spliced_nil ⟨I1.kIn, ?_⟩)
  rw [hq] at lh
  obtain ⟨s1, hc⟩ := sta_lam st hl ht tt lh
  have th := lam_thunk (k := k) (t := fun E => lE X.K (fun cls d _ H => E cls d H) we) I1 L hf hfn hfr hbind fun A outer s0 H0 E hr' => hbody A outer s0 H0 E f c' hr'
  have run := tko (k + 1) X.A X.stack s' H1 f c' (X.env.qual ++ "<lambda>") _ Q (L2.WE W σ) hr I1.env0 th (hq ▸ hc) (td σ (L2.WE W σ) we H1 Q ⟨F, cs, ρ, P, Z, s1.self, re.mono s1.gr, hw, pe.le s1.gr, px.le s1.gr⟩)
  refine wpAny_call (codeAny_mono run fun r s2 hq2 => ?_)
  cases r with
  | error e => exact passAt tk σ pins H1 s' e s2 I1 hq2
  | ok fl => cases fl <;> first | exact I1.after hq2 | exact False.elim hq2
end
/-- the first clause that takes cls -/
def CaughtBy (K : PySem.W.Frag) (cls : Value) : List Value → Prop
  | [] => False
  | c :: r => ∃ b, PySem.W.exmOne K cls c = some b ∧ (b = false → CaughtBy K cls r)
/-- a caught exception, its field f -/
def FldAt (K : PySem.W.Frag) (f : Str) (cls : Value) (d : Option Addr) (H : Hp) (v : V) : Prop := ∃ (C dd : Addr) (fs : List (Str × V)), cls = .ref C ∧ XfC K C ∧ PySem.W.findIn K (.ref C) f = some none ∧ d = some dd ∧ H dd = some (.xd fs) ∧ fs.lookup f = some v
def retT (K : PySem.W.Frag) (vs : List V) (H : Hp) (Q : VK) : Prop := ∀ p, H p = none → Q (.ref p) (upd H p (.tup vs))
def TTask (K : PySem.W.Frag) (cl : List Value) (t : XK → Hp → VK → Prop) (_ : XK) (H : Hp) (Q : VK) : Prop :=
  ∀ p, H p = none → t (fun cls d H' => CaughtBy K cls cl ∧ ∃ v, FldAt K "called" cls d H' v ∧ retT K [.non, v] H' Q) (upd H p (.tup [.non, .str ""])) fun v H' => retT K [v, .str ""] H' Q
section
variable {P : Program} {w : World} {K : PySem.W.Frag} {mg : Str → Option Value} {base : Heap}
theorem tk_ask {x a to wo e c1 c2 c3 : Str} {params : Arguments} {scope : Scope} {g : Addr} {fd : FuncData} {C1 C2 C3 : Addr} {k1 k2 k3 : Nat} {p1 p2 p3 p4 p5 p6 p7 p8 p9 q1 q2 q3 q4 q5 q6 q7 q8 q9 r1 r2 r3 r4 r5 r6 r7 r8 r9 p10 p11 p12 p13 p14 p15 p16 : Pos} {j1 j2 : Nat}
    (F : FunD K x x params [.Assign [.Tuple [.Name to p1, .Name wo p2] k1 p3] (.Tuple [.Constant .none j1 p4, .Constant (.str "") j2 p5] k2 p6) p7,
      .Try [.Assign [.Name to p8] (.Call (.Name a p9) [] [] p10) p11]
        [.ExceptHandler (some (.Name c1 q1)) (some e) [.Assign [.Name wo q2] (.Attribute (.Name e q3) "called" q4) q5] q6, .ExceptHandler (some (.Name c2 q7)) (some e) [.Assign [.Name wo q8] (.Attribute (.Name e q9) "called" r1) r2] r3,
         .ExceptHandler (some (.Name c3 r4)) (some e) [.Assign [.Name wo r5] (.Attribute (.Name e r6) "called" r7) r8] r9] [] [] p12,
      Stmt.Return (some (.Tuple [.Name to p13, .Name wo p14] k3 p15)) p16] scope [] [] g fd)
    (S : FnScope [a, to, wo, e] [a] scope) (hb : Binds K fd [a] []) (l1 : scope.names.lookup a = some .local) (l2 : scope.names.lookup to = some .local) (l3 : scope.names.lookup wo = some .local) (l4 : scope.names.lookup e = some .local)
    (g1 : scope.names.lookup c1 = some .globalImplicit) (g2 : scope.names.lookup c2 = some .globalImplicit) (g3 : scope.names.lookup c3 = some .globalImplicit) (m1 : mg c1 = some (.ref C1)) (m2 : mg c2 = some (.ref C2)) (m3 : mg c3 = some (.ref C3))
    (hd : ∀ y ∈ [a, to, wo, e, c1, c2, c3], (y == ("__debug__" : Str)) = false ∧ (y == ("__classdict__" : Str)) = false) (hN : [a, to, wo, e].Nodup)
    (hsw : ∀ env : PySem.Env, env.scope = scope → swappedStores [.Tuple [.Name to p1, .Name wo p2] k1 p3] (.Tuple [.Constant .none j1 p4, .Constant (.str "") j2 p5] k2 p6) env = pure none) :
    TkOk P w K mg base 1 g (TTask K [.ref C1, .ref C2, .ref C3]) := by
  refine tk_of (j := 0) F S hb fun k cdv A outer s H f c' q t Q E hr th hc h => ?_
  have d1 := hd a (by simp)
  have suite : ∀ (ob : Obj) (ax : Addr) (cls : Value) (d : Option Addr) (pn : List (Addr × Obj)) (z1 z2 z3 z4 : Pos), Zc cls d ob → (∃ vs, ob.data = .fields vs) →
      PSs ((cxD P w K mg base [a, to, wo, e] x scope g cdv A outer s H E).suite ax ((ax, ob) :: pn)) [.Assign [.Name wo z1] (.Attribute (.Name e z2) "called" z3) z4] (fun D σ H => σ[3]? = some (some (.ref ax)) ∧ ∃ v, FldAt K "called" cls d H v ∧ D.nx (σ.set 2 (some v)) H) := by
    intro ob ax cls d pn z1 z2 z3 z4 hz hf
    refine ⟨fun pins s1 σ1 H1 D I hw => ?_⟩
    obtain ⟨hs3, v, ⟨C, dd, fs, rfl, xf, hno, rfl, hdd, hl⟩, hn⟩ := hw
    refine (pss_one (ps_set (i := 2) hN rfl (.inl l3) (pe_xf xf hno hz hf (pe_var (i := 3) rfl (.inl l4) (hd e (by simp)).1 (hd e (by simp)).2)) (hf := .inr l3))).run pins s1 σ1 H1 D I ?_
    exact ⟨.ref ax, hs3, rfl, rfl, dd, fs, v, rfl, hdd, hl, hn⟩
  refine ⟨_, pss_cons (ps_asg (pe_tup (pa_cons pe_non (pa_cons pe_str pa_nil))) (pg_tup rfl (pgs_cons (pg_name (i := 1) hN rfl (.inl l2) (.inr l2)) (pgs_cons (pg_name (i := 2) hN rfl (.inl l3) (.inr l3)) pgs_nil))) (hw := hsw _ rfl))
    (pss_cons (ps_try_cls rfl rfl hN takesD (fun W pn xe tk _ => pss_one (ps_set (i := 1) hN rfl (.inl l2) (pe_thunk (i := 0) (W := W) th rfl tk (hr.mono (by omega)) rfl (.inl l1) d1.1 d1.2) (hf := .inr l2)))
      (.cons ⟨g1, (hd c1 (by simp)).1, .inl m1⟩ (.yes (i := 3) rfl l4) (fun ax ob cls d pn hz hf => suite ob ax cls d pn _ _ _ _ hz hf)
        (.cons ⟨g2, (hd c2 (by simp)).1, .inl m2⟩ (.yes (i := 3) rfl l4) (fun ax ob cls d pn hz hf => suite ob ax cls d pn _ _ _ _ hz hf)
          (.cons ⟨g3, (hd c3 (by simp)).1, .inl m3⟩ (.yes (i := 3) rfl l4) (fun ax ob cls d pn hz hf => suite ob ax cls d pn _ _ _ _ hz hf) .nil))))
      (pss_one (ps_ret (pe_tup (pa_cons (pe_var (i := 1) rfl (.inl l2) (hd to (by simp)).1 (hd to (by simp)).2) (pa_cons (pe_var (i := 2) rfl (.inl l3) (hd wo (by simp)).1 (hd wo (by simp)).2) pa_nil)))))), ?_⟩
  refine ⟨by decide, fun pt hpt => ⟨pt, [.non, .str ""], rfl, SqT.of upd_same, rfl, .non, [.str ""], rfl, .str "", [], rfl, rfl, ?_⟩⟩
  refine ⟨rfl, by rw [upd_ne (ne_of_none hc hpt)]; exact hc, ?_⟩
  refine ⟨_, _, fun cls d H1 z => ?_, fun v H1 z => ?_, h pt hpt⟩
  · obtain ⟨hcb, v, hfl, hrt⟩ := z
    obtain ⟨b1, e1, f1⟩ := hcb
    refine ⟨b1, e1, fun _ ax _ => ⟨rfl, v, hfl, .non, rfl, v, rfl, small_es (show 2 ≤ 1000 by decide), hrt⟩, fun h1 => ?_⟩
    obtain ⟨b2, e2, f2⟩ := f1 h1
    refine ⟨b2, e2, fun _ ax _ => ⟨rfl, v, hfl, .non, rfl, v, rfl, small_es (show 2 ≤ 1000 by decide), hrt⟩, fun h2 => ?_⟩
    obtain ⟨b3, e3, f3⟩ := f2 h2
    exact ⟨b3, e3, fun _ ax _ => ⟨rfl, v, hfl, .non, rfl, v, rfl, small_es (show 2 ≤ 1000 by decide), hrt⟩, fun h3 => (f3 h3).elim⟩
  · exact ⟨v, rfl, .str "", rfl, small_es (show 2 ≤ 1000 by decide), z⟩
end
def TTwhy (K : PySem.W.Frag) (cl : List Value) (t : XK → Hp → VK → Prop) (E : XK) (H : Hp) (Q : VK) : Prop := TTask K cl t E H fun v H' => rIx K v (.int 1) H' Q
theorem tk_call {Z : Cx} {W : WX} {j i k : Nat} {TT : (XK → Hp → VK → Prop) → XK → Hp → VK → Prop} {a x : Str} {f c' g : Addr} {q : Str} {t : XK → Hp → VK → Prop} {p1 p2 p3 : Pos} (tko : TkOk Z.prog Z.w Z.K Z.mg Z.base j g TT) (th : Thunk Z.prog Z.w Z.K Z.mg Z.base k Z.fs Z.H_0 Z.s_0 f c' q t) (hex : Z.ex = []) (tk : Takes Z W) (hr : Room (k + j) Z.A)
    (hst : Z.stack = Z.env :: Z.outer) (hfr : Z.env.frame = some Z.env.locals)
    (hg : Gl Z x) (hm : Z.mg x = some (.ref g)) (hk : PySem.W.keepIn Z.K (.ref g) = true) (hN : Z.N[i]? = some a) (hv : Vis Z.env.scope a) (hd : (a == ("__debug__" : Str)) = false) (hcd : (a == ("__classdict__" : Str)) = false) (hdx : (x == ("__debug__" : Str)) = false)
    (he : starEach [.Name a p1] Z.env = [(false, eval (.Name a p1) Z.env)]) :
    PE Z (.Call (.Name x p2) [.Name a p1] [] p3) (fun σ H Q => σ[i]? = some (some (.ref f)) ∧ H c' = some (CodeO c' q) ∧ TT t (L2.WE W σ) H Q) := by
  refine ⟨fun pins s σ H Q I h => ?_⟩
  obtain ⟨hs, hc, ht⟩ := h
  refine wpAny_Call_Name_kw (ld_glob I hg hm ?_ hdx)
  refine PySem.W.callWith_K (h₀ := Z.base) I.ok.mod.kin hk (thn ((pa_cons (pe_var (pos := p1) (i := i) hN hv hd hcd) pa_nil he).run p3 pins s σ H (fun vs H1 => vs = [.ref f] ∧ H1 = H) I ⟨.ref f, hs, rfl, rfl⟩) fun us s1 ⟨vs, H1, I1, r1, q1⟩ => ⟨I1.kIn, ?_⟩) he (by rfl)
  obtain ⟨rfl, rfl⟩ := q1
  cases r1 with
  | @cons _ u _ us' r1 r2 =>
    cases r2
    obtain rfl : u = Value.ref f := r1
    have un : Un Z.fs [] Z.H_0 H1 Z.s_0.heap s1.heap := hex ▸ I1.base
    obtain ⟨o, fd, o1, o2, o3, o4, o5⟩ := th.obj
    have of1 := un.keep f _ o1 th.no th.nf (by simp)
    have nL : Z.s_0.heap.get? Z.env.locals = none := by
      cases e : Z.s_0.heap.get? Z.env.locals with
      | none => rfl
      | some o => exact absurd (Nat.lt_of_lt_of_le (Heap.lt_size e) I1.ok.above) (Nat.lt_irrefl _)
    have efr : frs Z.stack = Z.env.locals :: Z.fs := by
      rw [hst]
      show List.filterMap _ _ = _
      rw [List.filterMap_cons, hfr] <;> rfl
    have nfL : f ≠ Z.env.locals := fun z => by rw [← z, o1] at nL; cases nL
    have th2 : Thunk Z.prog Z.w Z.K Z.mg Z.base k (frs Z.stack) H1 s1 f c' q t := by
      refine ⟨⟨o, fd, of1, o2, o3, o4, o5⟩, un.free f _ o1 th.no (by simp), ?_, fun A outer s2 H2 Q E hr e0 un2 hc2 ht2 => th.run A outer s2 H2 Q E hr e0 ?_ hc2 ht2⟩
      · rw [efr]
        intro z
        rcases List.mem_cons.mp z with z | z
        · exact nfL z
        · exact th.nf z
      · rw [efr] at un2
        have u1 : Un (Z.env.locals :: Z.fs) [] Z.H_0 H1 Z.s_0.heap s1.heap := un.mono (fun b hb => List.mem_cons_of_mem _ hb) fun b hb => hb
        exact Un.less (u1.trans un2) nL
    have run := tko k Z.A Z.stack s1 H1 f c' q t Q (L2.WE W σ) hr I1.env0 th2 hc ht
    refine wpAny_call (codeAny_mono run fun r s' hq => ?_)
    cases r with
    | error e => exact passAt tk σ pins H1 s1 e s' I1 hq
    | ok fl => cases fl <;> first | exact I1.after hq | exact False.elim hq
theorem tk_why {P : Program} {w : World} {K : PySem.W.Frag} {mg : Str → Option Value} {base : Heap} {j : Nat} {cl : List Value} {x a y : Str} {params : Arguments} {scope : Scope} {g g2 : Addr} {fd : FuncData} {p1 p2 p3 p4 p5 p6 : Pos} {k1 : Nat} (tko : TkOk P w K mg base j g2 (TTask K cl))
    (F : FunD K x x params [.Return (some (.Subscript (.Call (.Name y p1) [.Name a p2] [] p3) (.Constant (.int 1) k1 p4) p5)) p6] scope [] [] g fd) (S : FnScope [a] [a] scope) (hb : Binds K fd [a] []) (l1 : scope.names.lookup a = some .local) (gy : scope.names.lookup y = some .globalImplicit) (my : mg y = some (.ref g2))
    (ky : PySem.W.keepIn K (.ref g2) = true) (hd : (a == ("__debug__" : Str)) = false) (hcd : (a == ("__classdict__" : Str)) = false) (hdy : (y == ("__debug__" : Str)) = false) : TkOk P w K mg base (j + 1) g (TTwhy K cl) := by
  refine tk_of F S hb fun k cdv A outer s H f c' q t Q E hr th hc h => ?_
  exact ⟨_, pss_one (ps_ret (pe_ix ix_seq (tk_call (Z := cxD P w K mg base [a] x scope g cdv A outer s H E) (W := fun cls d _ H => E cls d H) (i := 0) tko th rfl takesD hr rfl rfl gy my ky rfl (.inl l1) hd hcd hdy (by rfl)) pe_int (by intro _ _; rfl))), rfl, hc, h⟩
/-- the exceptions of these names are caught, their text is read -/
def CatchOk (K : PySem.W.Frag) (cl : List Value) (L : List Str) : Prop := ∀ n ∈ L, CaughtBy K (.ref (He.ga K n)) cl ∧ XfC K (He.ga K n) ∧ PySem.W.findIn K (.ref (He.ga K n)) "called" = some none
def tAskD (L : List Str) (we : DL.WE) : DL.WE := fun ρ cs P Z => we ρ cs (fun d cs1 => P (.tup [d, .str ""]) cs1) (fun x cs1 => x.cls ∈ L ∧ ∃ y, x.fs.lookup ("called" : Str) = some y ∧ P (.tup [.non, y]) cs1)
def tWhyD (L : List Str) (we : DL.WE) : DL.WE := fun ρ cs P Z => we ρ cs (fun d cs1 => P (.str "") cs1) (fun x cs1 => x.cls ∈ L ∧ ∃ y, x.fs.lookup ("called" : Str) = some y ∧ P y cs1)
theorem td_ask {K : PySem.W.Frag} {cl : List Value} {L : List Str} (hL : CatchOk K cl L) : TkD K (TTask K cl) (tAskD L) := by
  intro σ E we H Q ⟨F, cs, ρ, P, Z, st, re, hw, pe, px⟩ p hp
  obtain ⟨s1, _⟩ := st.new (o := .tup [.non, .str ""]) hp
  have back : ∀ (H2 : Hp) (cs2 : Cs) (vs : List V) (ds : List D), Sta K F (pur F cs (upd H p (.tup [.non, .str ""]))) cs2 H2 → RepL K (pur F cs2 H2) vs ds → P (.tup ds) cs2 → retT K vs H2 Q := fun H2 cs2 vs ds s2 r2 h2 p2 hp2 => by
    obtain ⟨s3, e3⟩ := s2.new (o := .tup vs) hp2
    exact pe _ cs2 _ _ (s3.from_ (s1.gr.trans s2.gr)) (.tup (SqT.of e3) (r2.mono s3.gr)) h2
  refine ⟨F, cs, ρ, _, _, s1.self, re.mono s1.gr, hw, fun H2 cs2 v d s2 r2 h2 => back H2 cs2 _ _ s2 (.cons r2 (.cons (.str _) .nil)) h2, fun H2 cs2 x d s2 r2 h2 => ?_⟩
  obtain ⟨hx, y, hy, hp2⟩ := h2
  obtain ⟨h1, h3, h4⟩ := hL _ hx
  obtain ⟨dd, xs, rfl, e2, rx⟩ := r2
  obtain ⟨v, hv, rv⟩ := rx.get hy
  exact ⟨h1, v, ⟨_, dd, xs, rfl, h3, h4, rfl, pur_le _ _ e2, hv⟩, back H2 cs2 _ _ s2 (.cons .non (.cons rv .nil)) hp2⟩
theorem td_why {K : PySem.W.Frag} {cl : List Value} {L : List Str} (hL : CatchOk K cl L) : TkD K (TTwhy K cl) (tWhyD L) := by
  intro σ E we H Q ⟨F, cs, ρ, P, Z, st, re, hw, pe, px⟩
  refine td_ask hL σ E we H _ ⟨F, cs, ρ, (fun d cs2 => ∃ a b, d = .tup [a, b] ∧ P b cs2), Z, st, re, ?_, ?_, px⟩
  · have e1 : (fun d cs1 => P (.str "") cs1) = fun (d : D) (cs1 : Cs) => P (.str "") cs1 := rfl
    show we ρ cs (fun d cs1 => ∃ a b, D.tup [d, .str ""] = .tup [a, b] ∧ P b cs1) (fun x cs1 => x.cls ∈ L ∧ ∃ y, x.fs.lookup ("called" : Str) = some y ∧ ∃ a b, D.tup [.non, y] = .tup [a, b] ∧ P b cs1)
    have q1 : (fun d cs1 => ∃ a b, D.tup [d, .str ""] = .tup [a, b] ∧ P b cs1) = fun (d : D) (cs1 : Cs) => P (.str "") cs1 := by
      funext d cs1
      exact propext ⟨fun ⟨a, b, e, h⟩ => by cases e; exact h, fun h => ⟨_, _, rfl, h⟩⟩
    have q2 : (fun (x : Exn) cs1 => x.cls ∈ L ∧ ∃ y, x.fs.lookup ("called" : Str) = some y ∧ ∃ a b, D.tup [.non, y] = .tup [a, b] ∧ P b cs1) = fun (x : Exn) (cs1 : Cs) => x.cls ∈ L ∧ ∃ y, x.fs.lookup ("called" : Str) = some y ∧ P y cs1 := by
      funext x cs1
      exact propext ⟨fun ⟨h1, y, h2, a, b, e, h⟩ => by cases e; exact ⟨h1, _, h2, h⟩, fun ⟨h1, y, h2, h⟩ => ⟨h1, y, h2, _, _, rfl, h⟩⟩
    rw [q1, q2]
    exact hw
  · intro H2 cs2 v d s2 r2 ⟨a, b, ed, hp⟩
    subst ed
    cases r2 with
    | tup h r =>
      obtain ⟨u, hu, ru⟩ := r.atI (i := 1) (d := b) rfl
      exact .inr (.inl ⟨_, _, 1, u, rfl, rfl, ex_t pur_le h, hu, pe H2 cs2 u b s2 ru hp⟩)
theorem r_lam {p : Addr} {q : Str} {T : DL.WE → DL.WE} {we : DL.WE} {ρ : DL.Env} {cs : Cs} {P : DP} {Z : XZ} (hl : look p cs = some (.tbl q)) (h : T we ρ cs P Z) : wLam p q T we ρ cs P Z := ⟨hl, h⟩
end DL
namespace DL
open PySem PySem.Spec PyProof.Rows L2 LamX ClX
theorem oexB_ok {K : PySem.W.Frag} {C : Addr} (h : oexB K C = true) : OexC K C := by
  obtain ⟨h1, h⟩ := Bool.and_eq_true_iff.mp h
  obtain ⟨h2, h⟩ := Bool.and_eq_true_iff.mp h
  obtain ⟨h3, h⟩ := Bool.and_eq_true_iff.mp h
  obtain ⟨h4, h5⟩ := Bool.and_eq_true_iff.mp h
  refine ⟨?_, of_decide_eq_true h2, of_decide_eq_true h3, of_decide_eq_true h4, h5⟩
  split at h1
  · rename_i c dd cd sl hl
    obtain ⟨e1, h1⟩ := Bool.and_eq_true_iff.mp h1
    obtain ⟨e2, h1⟩ := Bool.and_eq_true_iff.mp h1
    obtain ⟨e3, h1⟩ := Bool.and_eq_true_iff.mp h1
    split at h1
    · rename_i C' bm a0 a1 a2 a3 n a5 em es
      obtain ⟨e4, h1⟩ := Bool.and_eq_true_iff.mp h1
      obtain ⟨e5, e6⟩ := Bool.and_eq_true_iff.mp h1
      have q1 := of_decide_eq_true e1
      have q4 := of_decide_eq_true e4
      have q5 := of_decide_eq_true e5
      subst q1 q4 q5
      obtain ⟨nm, bs, mro, ns, qn, hd, sn, sub, ab, col, del⟩ := cd
      dsimp only at em e2 e3
      have q3 : del = false := by cases del <;> first | rfl | cases e3
      subst em e2 q3
      have esl : sl = #[a0, a1, a2, a3, some (.builtin "ValueError.__new__"), a5] := by
        obtain ⟨l⟩ := sl
        simp only at es
        rw [es]
      subst esl
      exact ⟨nm, qn, ns, bs, bm, sn, sub, ab, col, dd, a0, a1, a2, a3, a5, hl, e6⟩
    · cases h1
  · cases h1
theorem xcB_ok {K : PySem.W.Frag} {C : Addr} (h : xcB K C = true) : XcC K C := by
  obtain ⟨h1, h⟩ := Bool.and_eq_true_iff.mp h
  obtain ⟨h2, h⟩ := Bool.and_eq_true_iff.mp h
  obtain ⟨h3, h⟩ := Bool.and_eq_true_iff.mp h
  obtain ⟨h4, h⟩ := Bool.and_eq_true_iff.mp h
  obtain ⟨h5, h6⟩ := Bool.and_eq_true_iff.mp h
  exact ⟨oexB_ok h1, xfB_ok h2, of_decide_eq_true h3, of_decide_eq_true h4, of_decide_eq_true h5, of_decide_eq_true h6⟩
/-- an own exception of the name n, its __init__ -/
structure XClass (K : PySem.W.Frag) (n : Str) : Prop where
  x : XcC K (He.ga K n)
  ini : PySem.W.findIn K (.ref (He.ga K n)) "__init__" = some (some (.ref (iniA K n)))
  ty : PySem.W.typeIn K (.ref (iniA K n)) = some (.type "function")
  rd : CRead K (He.ga K n) (.type "type")
  vl : CVal K (He.ga K n) (.type "type") "__init__" (.ref (iniA K n)) (.ref (iniA K n))
theorem cfB_ok {K : PySem.W.Frag} {C : Addr} {m : Str} {u : Value} (h : cfB K C m u = true) : PySem.W.findCls K (.ref C) (.type "type") m = some (.val u) := by
  unfold cfB at h
  split at h
  · rename_i v e
    rw [e, of_decide_eq_true h]
  · cases h
theorem xclassB_ok {K : PySem.W.Frag} {n : Str} (h : xclassB K n = true) : XClass K n := by
  obtain ⟨h1, h⟩ := Bool.and_eq_true_iff.mp h
  obtain ⟨h2, h⟩ := Bool.and_eq_true_iff.mp h
  obtain ⟨h3, h⟩ := Bool.and_eq_true_iff.mp h
  obtain ⟨h4, h⟩ := Bool.and_eq_true_iff.mp h
  obtain ⟨h5, h6⟩ := Bool.and_eq_true_iff.mp h
  exact ⟨xcB_ok h1, of_decide_eq_true h2, of_decide_eq_true h3, ⟨h4, of_decide_eq_true h5⟩, ⟨cfB_ok h6, rfl⟩⟩
theorem caughtB_ok {K : PySem.W.Frag} {n : Str} : ∀ {cl : List Str}, caughtB K n cl = true → CaughtBy K (.ref (He.ga K n)) (cl.map fun c => .ref (He.ga K c))
  | [], h => by cases h
  | c :: r, h => by
    unfold caughtB at h
    split at h
    · rename_i e
      exact ⟨true, e, fun z => by cases z⟩
    · rename_i e
      exact ⟨false, e, fun _ => caughtB_ok h⟩
    · cases h
theorem catch_ok {K : PySem.W.Frag} {cl L : List Str} (h : (L.all fun n => caughtB K n cl && (xfB K (He.ga K n) && noAt K (He.ga K n) "called")) = true) : CatchOk K (cl.map fun c => .ref (He.ga K c)) L := fun n hn => by
  obtain ⟨h1, h2⟩ := Bool.and_eq_true_iff.mp (List.all_eq_true.mp h n hn)
  obtain ⟨h3, h4⟩ := Bool.and_eq_true_iff.mp h2
  exact ⟨caughtB_ok h1, xfB_ok h3, of_decide_eq_true h4⟩
def exn (n : Str) : Exn := ⟨n, [("called", .str n)]⟩
def g0V (n : Str) : List V → List (Str × V) := fun _ => [("called", .str n)]
def g0 (n : Str) : List D → List (Str × D) := fun _ => [("called", .str n)]
theorem fld0 {K : PySem.W.Frag} {n : Str} : FldOk K (g0V n) (g0 n) := fun G vs ds r => .cons rfl (.str _) .nil
theorem r_raise {n : Str} {f : Fin} {ρ : DL.Env} {cs : Cs} (h : f.ex (exn n) ρ cs) : sRaise n (fun ds => g0 n (ds ++ [])) wNil f ρ cs := h
theorem ok_defC {P : Program} {w : World} {K : PySem.W.Frag} {mg : Str → Option Value} {base : Heap} {x qual : Str} {params : Arguments} {body : List Stmt} {scope : Scope} {dvs : List V} {kws : List (Str × V)} {f c : Addr} {fd : FuncData} {N ps : List Str} {k : Nat} {sp : DSp} (F : FunD K x qual params body scope dvs kws f fd) (hcd : fd.code = .ref c) (S : FnScope N ps scope) {u : DL.WS}
    (hb : ∀ (A : Around) (outer : List PySem.Env) (s : Shared) (H : Hp) (E : XK), Room k (A.deeper (envOfC qual scope s.heap.objs.size f (.ref c))) → DSs (cxD P w K mg base N qual scope f (.ref c) A outer s H E) (fun cls d _ H => E cls d H) body u)
    (hsp : ∀ ds cs Q Z, sp ds cs Q Z → ds.length = ps.length → u (finD Q Z) (startD N ds) cs) : FnOk P w K mg base (L2.CX P w) (k + 1) f fd ps (spL K ps.length sp) := by
  obtain ⟨oc, od, dV, kV, doc, pm, an, cdv, ct, osl, rfl, lk, hc2, h4, h5⟩ := F.ex
  have e : cdv = .ref c := hcd
  subst e
  refine fn_of lk hc2 S spL_len fun A outer s H vs Q E hr h => ?_
  obtain ⟨F0, cs, ds, Pd, Z, st, r, l, hs, pe, px⟩ := h
  refine ⟨_, hb A outer s H E hr, F0, cs, startD N ds, finD Pd Z, st, ?_, hsp ds cs Pd Z hs l, ⟨fun H' cs' σ' ρ' s' _ h' => pe H' cs' .non .non s' .non h', fun _ _ _ _ _ _ h => h.elim, fun _ _ _ _ _ _ h => h.elim, pe, fun H' cs' σ' ρ' x d s' _ r' h' => px H' cs' x d s' r' h'⟩⟩
  unfold startD L2.start
  rw [r.length]
  exact RepE.start _ r
theorem takesL {X : Cx} {A : Around} {outer : List PySem.Env} {s : Shared} {H : Hp} {E : XK} {scope : Scope} {f c' : Addr} : Takes (lamCx X A outer s H E scope f c') (fun cls d _ H => E cls d H) := takes_of rfl rfl rfl rfl
abbrev tabA (K : PySem.W.Frag) (n : Str) : Addr := (He.cT K (n, none)).2
def sp_lawT (tb : Cs) : DSp := fun ds cs P _ => ∃ ns : List Int, ds = [.lst (ns.map D.int)] ∧ ns.length ≤ 63 ∧ cs = tb ∧ ∀ cs', P (.bl true) cs'
def tbls (ts : List (Addr × Str)) : Cs := ts.map fun p => (p.1, .tbl p.2)
theorem law_startT {K : PySem.W.Frag} {H : Hp} {a : Addr} {ns : List Int} {ts : List (Addr × Str)} (nd : (ts.map (·.1)).Nodup) (hT : ∀ p ∈ ts, H p.1 = some (.tbl #[])) (hl : ns.length ≤ 63) (hS : SqL K H a (ns.map V.int)) :
    (fun (vs : List V) (H : Hp) (Q : VK) (_ : XK) => spL K 1 (sp_lawT (tbls ts)) vs H Q fun _ _ _ => False) [.ref a] H (fun v _ => v = .bl true) (fun _ _ _ => False) := by
  have ea : adr (tbls ts) = ts.map (·.1) := by unfold adr tbls; rw [List.map_map]; rfl
  refine ⟨fun _ => none, tbls ts, [.lst (ns.map D.int)], fun d _ => d = .bl true, fun _ _ => False, ⟨fun _ _ h => (nomatch h), Ex.refl _, ea ▸ nd, fun _ _ => rfl, fun b m hm => ?_, fun _ _ h => (nomatch h)⟩, ?_, rfl, ⟨ns, rfl, hl, rfl, fun _ => rfl⟩, ?_, fun _ _ _ _ _ _ h => h⟩
  · obtain ⟨p, hp, e⟩ := List.mem_map.mp hm
    cases e
    refine ⟨_, hT p hp, ⟨True.intro, fun pos cv hc => ?_⟩⟩
    have z : codeAmong pos [] = some cv := hc
    simp [codeAmong] at z
  · have hna : ∀ u : HO, (∀ ps, u ≠ .tbl ps) → H a = some u → pur (fun _ => none) (tbls ts) H a = some u := fun u hu e => by
      rw [pur_at rfl, e]
      rw [ea]
      intro z
      obtain ⟨p, hp, e2⟩ := List.mem_map.mp z
      have e3 : p.1 = a := e2
      rw [← e3, hT p hp] at e
      exact hu _ (Option.some.inj e).symm
    refine .cons (.lst ?_ (RepL.ofInts ns)) .nil
    rcases hS with (h | ⟨o, h⟩) | h
    · exact .inl (.inl (hna _ (fun ps z => by cases z) h))
    · exact .inl (.inr ⟨o, hna _ (fun ps z => by cases z) h⟩)
    · exact .inr h
  · intro H' cs' v d s r e
    subst e
    cases r
    rfl
end DL
namespace DL
open PySem PySem.Spec PyProof.Rows L2 LamX
theorem code_of {K : PySem.W.Frag} {n : Str} {x qual : Str} {params : Arguments} {body : List Stmt} {scope : Scope} {dvs : List V} {kws : List (Str × V)} {fd : FuncData} (F : FunD K x qual params body scope dvs kws (He.ga K n) fd) : fd.code = .ref (He.cT K (n, none)).1 := by
  obtain ⟨oc, od, dV, kV, doc, pm, an, cdv, ct, osl, rfl, lk, hc2, h4, h5⟩ := F.ex
  obtain ⟨c, rfl⟩ := He.codeIn_ref hc2
  have e := He.codeOf_eq (p := (n, none)) lk rfl
  show Value.ref c = _
  exact congrArg Value.ref e.symm
theorem fd_same {K : PySem.W.Frag} {f : Addr} {x x' qual qual' : Str} {params params' : Arguments} {body body' : List Stmt} {scope scope' : Scope} {dvs dvs' : List V} {kws kws' : List (Str × V)} {fd fd' : FuncData} (F : FunD K x qual params body scope dvs kws f fd) (F' : FunD K x' qual' params' body' scope' dvs' kws' f fd') : fd = fd' := by
  obtain ⟨_, _, _, _, _, _, _, _, _, _, _, lk, _⟩ := F.ex
  obtain ⟨_, _, _, _, _, _, _, _, _, _, _, lk', _⟩ := F'.ex
  rw [lk] at lk'
  injection lk' with e
  injection e with _ _ e
  injection e
end DL
namespace DL
open PySem PySem.Spec PyProof.Rows L2
theorem look_ne {p q : Addr} {cs : Cs} {m : MO} (h : look q cs = some m) (hp : p ∉ adr cs) : q ≠ p := fun e => hp (by
  subst e
  exact List.mem_map.mpr ⟨_, look_mem h, rfl⟩)
theorem look_cons_ne {p q : Addr} {cs : Cs} {b : MO} (h : q ≠ p) : look q ((p, b) :: cs) = look q cs := by
  show (if p = q then some b else look q cs) = look q cs
  rw [if_neg (fun z => h z.symm)]
theorem r_eqSs {cs : Cs} {P : DP} {x : Str} (h : P (.bl true) cs) : oEq (.str x) (.str x) cs P := ⟨rfl, rfl, by rw [show eqD (.str x) (.str x) = true from by simp [eqD]]; exact h⟩
theorem r_neSs {cs : Cs} {P : DP} {x : Str} (h : P (.bl false) cs) : oNe (.str x) (.str x) cs P := ⟨rfl, rfl, by rw [show eqD (.str x) (.str x) = true from by simp [eqD]]; exact h⟩
theorem tb_step {p q : Addr} {c c' : Cs} {m : MO} (a : BagStep p c c') (h : q ≠ p) (e : look q c = some m) : look q c' = some m := (a.look h).trans e
theorem tb_cons {p q : Addr} {c : Cs} {b m : MO} (h : q ≠ p) (e : look q c = some m) : look q ((p, b) :: c) = some m := (look_cons_ne h).trans e
theorem tb_put {p q : Addr} {c : Cs} {b m : MO} (h : q ≠ p) (e : look q c = some m) : look q (put p b c) = some m := (look_put_ne h).trans e
section
variable {L : List Str} {we : DL.WE} {ρ : DL.Env} {cs : Cs} {P : DP} {Z : XZ}
theorem r_ask (h : we ρ cs (fun d cs1 => P (.tup [d, .str ""]) cs1) (fun x cs1 => x.cls ∈ L ∧ ∃ y, x.fs.lookup ("called" : Str) = some y ∧ P (.tup [.non, y]) cs1)) : tAskD L we ρ cs P Z := h
theorem r_why (h : we ρ cs (fun d cs1 => P (.str "") cs1) (fun x cs1 => x.cls ∈ L ∧ ∃ y, x.fs.lookup ("called" : Str) = some y ∧ P y cs1)) : tWhyD L we ρ cs P Z := h
end
end DL
namespace DL
open PySem PySem.Spec PyProof.Rows L2 LamX
/-- the names of such a lambda: N are the maker's; its own ones are others -/
structure LamT (N : List Str) (sc scope : Scope) : Prop where
  kind : scope.kind = .function
  co : scope.isCoroutine = false
  gen : scope.isGenerator = false
  own : ∀ y ∈ scope.names, y.2 ≠ .cell ∧ (y.2 = .local → y.1 ∉ N)
  free : ∀ y ∈ scope.names, y.2 = .free → sc.names.lookup y.1 = some .cell ∨ sc.names.lookup y.1 = some .free
def lamTB (N : List Str) (sc scope : Scope) : Bool := decide (scope.kind = .function) && (!scope.isCoroutine && (!scope.isGenerator && scope.names.all fun y =>
  !decide (y.2 = .cell) && ((!decide (y.2 = .local) || !N.contains y.1) && (!decide (y.2 = .free) || (decide (sc.names.lookup y.1 = some .cell) || decide (sc.names.lookup y.1 = some .free))))))
theorem lamT_by {N : List Str} {sc scope : Scope} (h : lamTB N sc scope = true) : LamT N sc scope := by
  unfold lamTB at h
  simp only [Bool.and_eq_true, Bool.or_eq_true, Bool.not_eq_true', decide_eq_true_eq, decide_eq_false_iff_not, List.all_eq_true] at h
  obtain ⟨a1, a2, a3, a4⟩ := h
  refine ⟨a1, a2, a3, fun y hy => ⟨(a4 y hy).1, fun e hm => ?_⟩, fun y hy e => ?_⟩
  · rcases (a4 y hy).2.1 with z | z
    · exact z e
    · have : N.contains y.1 = true := by simpa using hm
      rw [this] at z; cases z
  · rcases (a4 y hy).2.2 with z | z
    · exact absurd e z
    · exact z
/-- the object of such a lambda, its defaults at T -/
abbrev lamOD (X : Cx) (params : Arguments) (body : Expr) (scope : Scope) (T : Addr) (doc pm ctv : Value) (c' : Addr) : Obj :=
  PySem.W.kdv_obj "<lambda>" (X.env.qual ++ "<lambda>") params (.expr body) scope (cloFrom X.env.cells scope.names []) (.ref T) doc pm c' ctv
section
variable {X : Cx} {pins : List (Addr × Obj)} {σ : L2.St} {H : Hp} {s : Shared}
theorem lam_makeD {c P : Addr} {ps : Array Value} {params : Arguments} {body : Expr} {scope : Scope} {pos : Pos} {Q : Value → Shared → Prop} {i0 : Int} {j0 : Nat} {p0 : Pos} (I : Inv X pins σ H s) (TB : TabB X.base X.mg c P) (hcode : X.env.code = .ref c)
    (hP : H P = some (.tbl ps)) (hT : TabT H ps (X.env.qual ++ "<lambda>")) (hdf : params.defaults = [.Constant (.int i0) j0 p0]) (hkd : params.kw_defaults = []) (hfree : ∀ y ∈ scope.names, y.2 = .free → ∃ c, X.env.cells.lookup y.1 = some c)
    (h : ∀ (f c' T : Addr) (dv doc pm ctv : Value) (H1 : Hp) (s' : Shared), Inv X pins σ H1 s' → LamH H P c' (X.env.qual ++ "<lambda>") ps H1 → s'.heap.get? f = some (lamOD X params body scope T doc pm ctv c') → H1 f = none → f ∉ frs X.stack →
      s'.heap.get? T = some (PySem.W.kdv_tup [dv]) → H1 T = none → T ∉ frs X.stack → Q (.ref f) s') :
    wpAny (model X.prog X.w) X.A (eval (.Lambda params body scope pos) X.env) Q X.xe s := by
  obtain ⟨tOk, tIn⟩ := hT
  refine PySem.W.kdv_lam (by rw [hdf] <;> rfl) hkd ?_
  rw [hdf]
  refine PySem.W.kdv_all1 (wpAny_mono ((pe_int (X := X) (i := i0)).run pins s σ H (fun v H1 => v = .int i0 ∧ H1 = H) I ⟨rfl, rfl⟩) (fun dv s1 hh => ?_) fun e s1 z => ?_)
  · obtain ⟨v, H1, I1, rv, ev, eH⟩ := hh
    subst ev
    rw [eH] at I1
    refine PySem.W.kdv_all0 ?_
    rw [makeFunction_eq]
    simp only [List.zip_nil_right, List.filterMap_nil, List.isEmpty_nil, List.isEmpty_cons, Bool.false_eq_true, if_true, if_false, pure_bind]
    refine wpAny_bind (wpAny_newTextTuple ?_)
    obtain ⟨T, eT⟩ : ∃ T, T = s1.heap.objs.size := ⟨_, rfl⟩
    rw [← eT]
    have kp : ∀ b o, s1.heap.get? b = some o → (s1.heap.push (PySem.W.kdv_tup [dv])).get? b = some o := fun b o e => Heap.get?_push_of_some _ e
    have I2 : Inv X pins σ H { s1 with heap := s1.heap.push (PySem.W.kdv_tup [dv]) } := I1.kept (t' := s1.toks) kp
    have oT : (s1.heap.push (PySem.W.kdv_tup [dv])).get? T = some (PySem.W.kdv_tup [dv]) := by rw [eT]; exact Heap.get?_push_size _ rfl
    have nT : H T = none := by rw [eT]; exact I1.hok.fresh (Nat.le_refl _)
    have far : ∀ (s2 : Shared) (_ : Inv X pins σ H s2) (b : Addr), s2.heap.objs.size ≤ b → b ∉ frs X.stack := fun s2 J b le z => by
      rcases List.mem_cons.mp (J.stkSub _ z) with e | e
      · exact Nat.lt_irrefl _ (Nat.lt_of_lt_of_le (e ▸ J.lt) le)
      · exact J.nofs le e
    have fT : T ∉ frs X.stack := by rw [eT]; exact far s1 I1 _ (Nat.le_refl _)
    generalize hs2 : ({ s1 with heap := s1.heap.push (PySem.W.kdv_tup [dv]) } : Shared) = s2 at I2
    have oT2 : s2.heap.get? T = some (PySem.W.kdv_tup [dv]) := by rw [← hs2]; exact oT
    have kB : s2.heap.BuiltinsAt X.mg P := TB.bm.keeps I2.bk
    have kC := TB.code.keeps I2.bk
    have kG := I2.mod.glob.keeps I2.bk
    have obP : s2.heap.get? P = some { cls := .none, data := .fields ps } := I2.hok P _ hP
    have nTP : T ≠ P := fun z => by rw [z, hP] at nT; cases nT
    rcases hc : codeAmong pos ps.toList with _ | cv
    · apply PySem.W.kdv_makeTail (mg := X.mg) (c := c) (P := P) (ps := ps) (closure_ok hfree) I2.ok.glob kG hcode kC obP tOk hc TB.gP kB
      intro c' ctv doc h' tk ext cge clt crec tab
      obtain ⟨c2, oc, fvs, t, e2, hoc, hd, hv⟩ := crec
      cases e2
      have nc : H c' = none := I2.hok.fresh cge
      have le : s2.heap.objs.size ≤ h'.objs.size := Nat.le_trans cge (Nat.le_of_lt clt)
      have J := inv_table (t' := tk) (q := X.env.qual ++ "<lambda>") (more := #[rawInt pos.line, rawInt pos.col, .ref c']) (h' := h'.push (lamOD X params body scope T doc ((X.mg "__name__").getD .none) ctv c')) I2 hP
        (fun b o hb e => Heap.get?_push_of_some _ (ext b o hb e)) (Heap.get?_push_of_some _ tab) cge ⟨oc, fvs, t, Heap.get?_push_of_some _ hoc, hd, hv⟩
      have eL : (ps ++ #[rawInt pos.line, rawInt pos.col, .ref c']).toList = ps.toList ++ [rawInt pos.line, rawInt pos.col, .ref c'] := by simp
      have up : ∀ b, b ≠ c' → b ≠ P → H b = none → upd (upd H P (.tbl (ps ++ #[rawInt pos.line, rawInt pos.col, .ref c']))) c' (CodeO c' (X.env.qual ++ "<lambda>")) b = none := fun b h1 h2 h3 => by rw [upd_ne h1, upd_ne h2]; exact h3
      refine h h'.objs.size c' T dv doc _ ctv _ _ J (.new nc ?_ fun p' cv z => ?_) (Heap.get?_push_size _ rfl) (up _ (Nat.ne_of_gt clt) (Nat.ne_of_gt (Nat.lt_of_lt_of_le (Heap.lt_size obP) le)) (I2.hok.fresh le)) (far s2 I2 _ le)
        (Heap.get?_push_of_some _ (ext T _ nTP oT2)) (up _ (Nat.ne_of_lt (Nat.lt_of_lt_of_le (Heap.lt_size oT2) cge)) nTP nT) fT
      · rw [eL]; exact PySem.TriplesOk_snoc _ _ _ _ tOk
      · rw [eL] at z; exact among_app _ tOk z
    · obtain ⟨c', rfl, hco⟩ := tIn pos cv hc
      apply PySem.W.kdv_makeTailHit (mg := X.mg) (c := c) (P := P) (ps := ps) (closure_ok hfree) I2.ok.glob kG hcode kC obP tOk hc kB
      intro ctv doc h' tk ext le
      exact h h'.objs.size c' T dv doc _ ctv H _ (I2.kept (t' := tk) fun b o e => Heap.get?_push_of_some _ (ext b o e)) (.hit hco) (Heap.get?_push_size _ rfl) (I2.hok.fresh le) (far s2 I2 _ le)
        (Heap.get?_push_of_some _ (ext _ _ oT2)) nT fT
  · exact z
end
theorem LamT.has {X : Cx} {scope : Scope} (L : LamT X.N X.env.scope scope) (ok : X.Ok) : ∀ y ∈ scope.names, y.2 = .free → ∃ c, X.env.cells.lookup y.1 = some c := fun y hy e =>
  (L.free y hy e).elim (fun k => ok.has _ (.inl k)) fun k => ok.has _ (.inr k)
section
variable {X : Cx} {pins : List (Addr × Obj)} {σ : L2.St} {H HZ : Hp} {s s1 : Shared}
/-- the lambda's body begins: binds are its own names -/
theorem lam_startD {A : Around} {outer : List PySem.Env} {E : XK} {scope : Scope} {f c' : Addr} {h1 : Heap} {tk : Nat} {mo : Str → Option Value} (I : Inv X pins σ H s) (L : LamT X.N X.env.scope scope) (e0 : Env0 X.prog X.w X.K X.mg X.base A outer s1 HZ) (hd : A.handled = none)
    (un : Un (frs X.stack) [] H HZ s.heap s1.heap) (hns : h1.Ns s1.heap.objs.size mo) (kp : ∀ b o, s1.heap.get? b = some o → h1.get? b = some o) :
    Inv (lamCx X A outer s1 HZ E scope f c') [] σ HZ { s1 with heap := h1, toks := tk } := by
  have free' := L.has I.ok
  have down : ∀ {y c}, (cloFrom X.env.cells scope.names []).lookup y = some c → X.env.cells.lookup y = some c := by
    intro y c e
    rcases cloFrom_mem (PySem.mem_of_lookup e) with hm | ⟨a1, a2⟩
    · cases hm
    · obtain ⟨c1, hc⟩ := free' _ a1 rfl
      have hc1 : X.env.cells.lookup y = some c1 := hc
      rw [show c = c1 by rw [a2, hc1] <;> rfl]
      exact hc1
  have up : ∀ {y}, scope.names.lookup y = some .free → ∃ c, (cloFrom X.env.cells scope.names []).lookup y = some c := fun {y} hl =>
    mem_lookup (cloFrom_has (cells := X.env.cells) (acc := []) (show (y, NameKind.free) ∈ scope.names from PySem.mem_of_lookup hl))
  have cellK : ∀ {c : Addr} {v : Option Value}, H c = none → s.heap.IsCell c v → h1.IsCell c v := fun {c v} n ⟨o, ho, hdt⟩ => by
    obtain ⟨sl, q⟩ := un.any ho n (by simp)
    exact ⟨_, kp _ _ q, hdt⟩
  have none_ : ∀ {b : Addr} {T : Prop}, b ∈ (lamCx X A outer s1 HZ E scope f c').ex → T := fun {b T} z => absurd (show b ∈ ([] : List Addr) from z) (by simp)
  refine ⟨⟨e0.mod, L.kind, rfl, rfl, Nat.le_refl _, fun y z c a1 a2 => I.ok.inj y z c (down a1) (down a2), fun y hy => ?_, fun y c z _ => ?_, fun _ => hd, Around.frames_deeper e0.frames, .inr ⟨rfl, rfl⟩, fun b z => none_ z, e0.bs, e0.bsz, fun b _ _ z => none_ z, fun b z => none_ z, e0.funs, e0.frf⟩,
    rfl, e0.bare, Un.kept kp, ⟨_, hns, fun i y v a1 a2 a3 => ?_⟩, fun y c e => ?_, e0.hok.fresh (Nat.le_refl _), fun y c e => ?_, fun q hq => absurd (show q ∈ ([] : List (Addr × Obj)) ++ [] from hq) (by simp), e0.hok.kept kp, I.len⟩
  · have hy2 : scope.names.lookup y = some .cell ∨ scope.names.lookup y = some .free := hy
    rcases hy2 with q | q
    · exact absurd rfl (L.own _ (PySem.mem_of_lookup q)).1
    · exact up q
  · exact absurd (show (false : Bool) = true from z) (by simp)
  · have a4 : Vis scope y := a3
    rcases a4 with k | k | k
    · exact absurd (List.mem_of_getElem? a1) ((L.own _ (PySem.mem_of_lookup k)).2 rfl)
    · exact absurd rfl (L.own _ (PySem.mem_of_lookup k)).1
    · obtain ⟨m, hn, hl⟩ := I.loc
      have vis : Vis X.env.scope y := .inr ((L.free _ (PySem.mem_of_lookup k) rfl).elim .inl .inr)
      obtain ⟨w', r, q⟩ := hl i y v a1 a2 vis
      obtain ⟨c2, h2⟩ := up k
      have c1 := down h2
      refine ⟨w', r, .inr ⟨.inr k, c2, h2, ?_⟩⟩
      rcases q with ⟨k', _⟩ | ⟨_, c3, e', z⟩
      · have k2 : X.env.scope.names.lookup y = some .local := k'
        rcases L.free _ (PySem.mem_of_lookup k) rfl with k3 | k3 <;> rw [show X.env.scope.names.lookup y = _ from k3] at k2 <;> cases k2
      · rw [c1] at e'
        cases e'
        exact cellK (I.freeC y _ c1) z
  · obtain ⟨w', z⟩ := I.cell y c (down e)
    exact ⟨w', cellK (I.freeC y c (down e)) z⟩
  · obtain ⟨v, o, ho, hdt⟩ := I.cell y c (down e)
    exact un.free c o ho (I.freeC y c (down e)) (by simp)
end
theorem lam_thunkD {X : Cx} {pins : List (Addr × Obj)} {σ : L2.St} {H : Hp} {s : Shared} {f c' T : Addr} {a : Str} {dv doc pm ctv : Value} {params : Arguments} {body : Expr} {scope : Scope} {k : Nat} {t : XK → TE} (I : Inv X pins σ H s) (L : LamT X.N X.env.scope scope)
    (hf : s.heap.get? f = some (lamOD X params body scope T doc pm ctv c')) (hfn : H f = none) (hfr : f ∉ frs X.stack) (hT : s.heap.get? T = some (PySem.W.kdv_tup [dv])) (hTn : H T = none) (hTr : T ∉ frs X.stack) (hl : scope.names.lookup a = some .local)
    (hbind : ∀ (q : Str) (cl : List (Str × Addr)) (T : Addr) (doc pm cv ctv dv : Value), ∃ k, bindArgs (PySem.W.kdv_fn "<lambda>" q params (.expr body) scope cl (.ref T) doc pm cv ctv) ⟨[], []⟩ = seqItems? (.ref T) >>= k ∧ k (some #[dv]) = pure [(a, dv)])
    (hbody : ∀ (A : Around) (outer : List PySem.Env) (s : Shared) (H : Hp) (E : XK), Room k (A.deeper (lamEnv X scope s.heap.objs.size f c')) → PE (lamCx X A outer s H E scope f c') body (t E)) :
    Thunk X.prog X.w X.K X.mg X.base (k + 1) (frs X.stack) H s f c' (X.env.qual ++ "<lambda>") (fun E H Q => t E σ H Q) := by
  refine ⟨⟨_, _, hf, rfl, rfl, rfl, rfl⟩, hfn, hfr, fun A outer s1 H1 Q E hr e0 un hc ht => ?_⟩
  have of1 := un.keep f _ hf hfn hfr (by simp)
  have oT1 := un.keep T _ hT hTn hTr (by simp)
  obtain ⟨⟨oc, fvs, tx, hoc, hdc, hvc⟩, _, _⟩ := e0.hok c' _ hc
  have lim : s1.heap.NoLimit := e0.mod.nolimit.keeps fun b o e => (e0.bs b o e).1
  obtain ⟨kb, b1, b2⟩ := hbind (X.env.qual ++ "<lambda>") (cloFrom X.env.cells scope.names []) T doc pm (.ref c') ctv dv
  have B : BindsTo s1 (PySem.W.kdv_fn "<lambda>" (X.env.qual ++ "<lambda>") params (.expr body) scope (cloFrom X.env.cells scope.names []) (.ref T) doc pm (.ref c') ctv) ⟨[], []⟩ [(a, dv)] := BindsTo.of_defaults rfl oT1 rfl b1 b2
  refine PySem.W.kla_callFunE hr.depth of1 rfl L.co L.gen rfl ⟨c', oc, fvs, tx, rfl, hoc, hdc, hvc⟩ (B _ _ _ _ ?_)
  refine wpAny_newFunctionEnv (fun y hy => (L.own y hy).1) (fun y hy => by rw [List.mem_singleton.mp hy]; exact hl) (fun h1 hns hsb => ⟨lim.fresh _ hsb, ?_⟩) L.kind
  have kp : ∀ b o, s1.heap.get? b = some o → h1.get? b = some o := fun b o e => hsb.extBut b o (Nat.ne_of_lt (Heap.lt_size e)) (Heap.get?_push_of_some _ e)
  have J := lam_startD (E := E) (f := f) (c' := c') (tk := s1.toks + [(a, dv)].length) I L e0 hr.hd un hns kp
  refine PySem.W.kla_codeExpr (wpAny_mono ((hbody _ _ s1 H1 E (hr.deeper _)).run [] _ _ H1 Q J ht) (fun v s' hq => ?_) fun e s' hq => hq)
  obtain ⟨w', H', J', rv, q⟩ := hq
  exact ⟨w', H', J'.os, J'.bare, J'.base, J'.hok, rv, q⟩
section
variable {X : Cx} {W : WX}
theorem d_lamD {j k : Nat} {TT : (XK → Hp → VK → Prop) → XK → Hp → VK → Prop} {T : DL.WE → DL.WE} {we : DL.WE} {g c pt : Addr} {q x a : Str} {params : Arguments} {body : Expr} {scope : Scope} {p lpos pos : Pos} {i0 : Int} {j0 : Nat} {p0 : Pos} (tko : TkOk X.prog X.w X.K X.mg X.base j g TT) (td : TkD X.K TT T) (tk : Takes X W) (hr : Room (k + 1 + j) X.A)
    (hg : Gl X x) (hm : X.mg x = some (.ref g)) (hk : PySem.W.keepIn X.K (.ref g) = true) (TB : TabB X.base X.mg c pt) (hcode : X.env.code = .ref c) (L : LamT X.N X.env.scope scope) (hla : scope.names.lookup a = some .local)
    (hbody : ∀ (A : Around) (outer : List PySem.Env) (s : Shared) (H : Hp) (E : XK) (f c' : Addr), Room k (A.deeper (lamEnv X scope s.heap.objs.size f c')) → DE (lamCx X A outer s H E scope f c') (fun cls d _ H => E cls d H) body we)
    (hq : X.env.qual ++ "<lambda>" = q := by rfl) (hdf : params.defaults = [.Constant (.int i0) j0 p0] := by rfl) (hkd : params.kw_defaults = [] := by rfl)
    (hbind : ∀ (q : Str) (cl : List (Str × Addr)) (T : Addr) (doc pm cv ctv dv : Value), ∃ k, bindArgs (PySem.W.kdv_fn "<lambda>" q params (.expr body) scope cl (.ref T) doc pm cv ctv) ⟨[], []⟩ = seqItems? (.ref T) >>= k ∧ k (some #[dv]) = pure [(a, dv)] := by intros; exact ⟨_, rfl, rfl⟩) (hdb : (x == ("__debug__" : Str)) = false := by decide) :
    DE X W (.Call (.Name x p) [.Lambda params body scope lpos] [] pos) (wLam pt q T we) := by
  refine ⟨fun pins s σ H Q I h => ?_⟩
  obtain ⟨F, cs, ρ, P, Z, st, re, ⟨hl, hw⟩, pe, px⟩ := h
  obtain ⟨ps, ht, tt⟩ := tbl_at st hl
  refine wpAny_Call_Name_kw (ld_glob I hg hm ?_ hdb)
  refine PySem.W.callWith_K (h₀ := X.base) I.ok.mod.kin hk ?_ (by rfl) (by rfl)
  show wpAny _ _ (spliced ((false, eval (.Lambda params body scope lpos) X.env) :: backTo pos (starEach [] X.env))) _ _ s
  refine Calls.spliced_cons (lam_makeD I TB hcode ht (hq ▸ tt.le pur_le) hdf hkd (L.has I.ok) fun f c' T' dv doc pm ctv H1 s' I1 lh hf hfn hfr hT hTn hTr => Calls.spliced_nil ⟨I1.kIn, ?_⟩)
  rw [hq] at lh
  obtain ⟨s1, hc⟩ := sta_lam st hl ht tt lh
  have th := lam_thunkD (k := k) (t := fun E => lE X.K (fun cls d _ H => E cls d H) we) I1 L hf hfn hfr hT hTn hTr hla hbind fun A outer s0 H0 E hr' => hbody A outer s0 H0 E f c' hr'
  have run := tko (k + 1) X.A X.stack s' H1 f c' (X.env.qual ++ "<lambda>") _ Q (L2.WE W σ) hr I1.env0 th (hq ▸ hc) (td σ (L2.WE W σ) we H1 Q ⟨F, cs, ρ, P, Z, s1.self, re.mono s1.gr, hw, pe.le s1.gr, px.le s1.gr⟩)
  refine wpAny_call (codeAny_mono run fun r s2 hq2 => ?_)
  cases r with
  | error e => exact passAt tk σ pins H1 s' e s2 I1 hq2
  | ok fl => cases fl <;> first | exact I1.after hq2 | exact False.elim hq2
end
end DL
namespace DL
open PySem PySem.Spec PyProof.Rows L2
section
variable {X : Cx} {W : WX} {K : PySem.W.Frag} {b : Expr} {es : List Expr} {w : WA} {wb : DL.WE} {p1 pos : Pos}
def wLRep (w : WA) (wb : DL.WE) : DL.WE := fun ρ cs P Z => w ρ cs (fun ds cs1 => wb ρ cs1 (fun y cs2 => ∃ k : Nat, y = .int (k : Int) ∧ ds.length * k ≤ 100000 ∧ k ≤ 100000 ∧ P (.lst (List.replicate k ds).flatten) cs2) Z) Z
theorem d_lrep (h : DA X W es w) (hb : DE X W b wb) (hn : es.length ≤ 1000 := by decide) : DE X W (.BinOp (.List es p1) .Mult b pos) (wLRep w wb) :=
  PE.imp (pe_op L2.op_rep (pe_lst h) hb) fun σ H Q hq => by
    obtain ⟨F, cs, ρ, P, Z, s, re, hw, pe, px⟩ := hq
    refine ⟨F, cs, ρ, _, Z, s, re, hw, fun H1 cs1 vs ds s1 r1 l1 h1 => ⟨by rw [r1.length, l1]; exact small_es hn, fun p hp => ?_⟩, px⟩
    obtain ⟨s2, e2⟩ := s1.new (o := .lst vs) hp
    refine ⟨F, cs1, ρ, _, Z, s2.self, re.mono (s1.gr.trans s2.gr), h1, fun H2 cs2 v d s3 r3 h3 => ?_, px.le (s1.gr.trans s2.gr)⟩
    obtain ⟨k, rfl, hk, hk2, h4⟩ := h3
    cases r3
    refine ⟨p, k, vs, rfl, rfl, pur_le _ _ (s3.gr _ _ e2), by omega, by omega, ?_, fun p2 hp2 => ?_⟩
    · rw [r1.length]
      have e : ((k : Int)).toNat = k := by omega
      rw [e]
      exact Nat.le_trans hk (by decide)
    · rw [show ((k : Int)).toNat = k by omega]
      obtain ⟨s4, e4⟩ := s3.new (o := .lst (List.replicate k vs).flatten) hp2
      exact pe _ cs2 _ _ (s4.from_ ((s1.gr.trans s2.gr).trans s3.gr)) (.lst (SqL.of e4) ((r1.mono ((s2.gr.trans s3.gr).trans s4.gr)).rep k)) h4
theorem r_lrep {ρ : DL.Env} {cs : Cs} {P : DP} {Z : XZ} (h : w ρ cs (fun ds cs1 => wb ρ cs1 (fun y cs2 => ∃ k : Nat, y = .int (k : Int) ∧ ds.length * k ≤ 100000 ∧ k ≤ 100000 ∧ P (.lst (List.replicate k ds).flatten) cs2) Z) Z) : wLRep w wb ρ cs P Z := h
theorem r_lrepE {ds : List D} {k : Nat} {P : DP} {cs : Cs} (h1 : ds.length * k ≤ 100000) (h2 : k ≤ 100000) (h : P (.lst (List.replicate k ds).flatten) cs) : ∃ k' : Nat, D.int (k : Int) = .int (k' : Int) ∧ ds.length * k' ≤ 100000 ∧ k' ≤ 100000 ∧ P (.lst (List.replicate k' ds).flatten) cs := ⟨k, rfl, h1, h2, h⟩
end
end DL
namespace DL
open PySem PySem.Spec PyProof.Rows L2
def pickL {α : Type} (is : List Nat) (xs : List α) : List α := is.filterMap fun i => xs[i]?
section
variable {X : Cx} {W : WX} {e : Expr} {es : List Expr} {w wk : WA} {x : Str} {p pos : Pos}
def wCallG (sp : DSp) (is : List Nat) (ms : List D) (w wk : WA) : DL.WE := fun ρ cs P Z => w ρ cs (fun ds cs1 => wk ρ cs1 (fun zs cs2 => sp (ds ++ pickL is (ms ++ zs)) cs2 P Z) Z) Z
variable {sp : DSp} {is : List Nat} {ms : List D} {ρ : DL.Env} {cs : Cs} {P : DP} {Z : XZ}
theorem r_callG (h : w ρ cs (fun ds cs1 => wk ρ cs1 (fun zs cs2 => sp (ds ++ pickL is (ms ++ zs)) cs2 P Z) Z) Z) : wCallG sp is ms w wk ρ cs P Z := h
theorem r_pk1 {ds xs : List D} {i : Nat} {a : D} (ha : xs[i]? = some a) (h : sp (ds ++ [a]) cs P Z) : sp (ds ++ pickL [i] xs) cs P Z := by
  unfold pickL
  simp only [List.filterMap_cons, ha, List.filterMap_nil]
  exact h
theorem r_pk2 {ds xs : List D} {i j : Nat} {a b : D} (ha : xs[i]? = some a) (hb : xs[j]? = some b) (h : sp (ds ++ [a, b]) cs P Z) : sp (ds ++ pickL [i, j] xs) cs P Z := by
  unfold pickL
  simp only [List.filterMap_cons, ha, hb, List.filterMap_nil]
  exact h
end
end DL
namespace DL
open PySem PySem.Spec PyProof.Rows L2
section
variable {X : Cx} {W : WX} {e b : Expr} {we wb : DL.WE} {lo hi : Option Expr} {wl wh : WO} {p1 p2 pos : Pos}
def wSlRep (we : DL.WE) (wl wh : WO) (wb : DL.WE) : DL.WE := fun ρ cs P Z => we ρ cs (fun x cs1 => wl ρ cs1 (fun l cs2 => wh ρ cs2 (fun u cs3 => match x with
  | .lst xs => wb ρ cs3 (fun y cs4 => ∃ k : Nat, y = .int (k : Int) ∧ (cutD xs l u).length * k ≤ 100000 ∧ k ≤ 100000 ∧ P (.lst (List.replicate k (cutD xs l u)).flatten) cs4) Z
  | _ => False) Z) Z) Z
theorem r_slrep {ρ : DL.Env} {cs : Cs} {P : DP} {Z : XZ} (h : we ρ cs (fun x cs1 => wl ρ cs1 (fun l cs2 => wh ρ cs2 (fun u cs3 => match x with
  | .lst xs => wb ρ cs3 (fun y cs4 => ∃ k : Nat, y = .int (k : Int) ∧ (cutD xs l u).length * k ≤ 100000 ∧ k ≤ 100000 ∧ P (.lst (List.replicate k (cutD xs l u)).flatten) cs4) Z
  | _ => False) Z) Z) Z) : wSlRep we wl wh wb ρ cs P Z := h
end
section
variable {b : Bx} {cs : Cs} {P : DP}
theorem r_slB {lo hi : Option Int} (h : P (.tup (DL.cutD [dR b.l, dR b.t, dR b.w, dR b.h] lo hi)) cs) : oSlT b.d lo hi cs P := h
theorem r_listB (h : P (.lst [dR b.l, dR b.t, dR b.w, dR b.h]) cs) : oList [b.d] cs P := h
theorem r_lenB (h : P (.int 4) cs) : oLen [b.d] cs P := h
theorem r_catB {xs : List D} (hl : xs.length ≤ 1000) (h : P (.tup ([dR b.l, dR b.t, dR b.w, dR b.h] ++ xs)) cs) : oCatT b.d (.tup xs) cs P := ⟨by show 4 + xs.length ≤ _; omega, h⟩
end
end DL
namespace DL
open PySem PySem.Spec PyProof.Rows L2
section
variable {X : Cx} {W : WX} {K : PySem.W.Frag} {σ : L2.St} {H : Hp} {a b e : Expr} {wa wb we : DL.WE} {pos : Pos}
def rInQ (K : PySem.W.Frag) (neg : Bool) : R2 := fun x y H Q => ∃ p ys ds d, y = .ref p ∧ SqT K H p ys ∧ DpAll K H ys ds ∧ Dp K H x d ∧ PyData.plainAll ds = true ∧ d.plain = true ∧ d.depth ≤ 60 ∧ Q (.bl (if neg then !(ds.any fun z => PyData.eqv z d) else ds.any fun z => PyData.eqv z d)) H
theorem op_notInQ (hu : X.A.units + 64 < cLine) : OpR X (compareOp .NotIn) (rInQ X.K true) := by
  intro pins s σ H x y v u Q I rx ry h
  obtain ⟨p, ys, ds, d, rfl, hs, hds, hd, p1, p2, p3, q⟩ := h
  obtain ⟨as, r1⟩ := Dp.reads I (.tuple ds) (.ref p) u (.tup hs hds) ry
  obtain ⟨bs, r2⟩ := Dp.reads I d x v hd rx
  refine PySem.SeqAt.notIn_tuple_data r1 r2 p1 p2 ?_ ⟨.bl _, H, I, rfl, q⟩
  have h2 : min (PyData.depthAll ds) d.depth ≤ d.depth := Nat.min_le_right _ _
  omega
def oNotInQ : DO2 := fun x y cs P => match y with
  | .tup xs => plL 20 xs = true ∧ plD 20 x = true ∧ P (.bl (!(xs.any fun z => eqD z x))) cs
  | _ => False
theorem adq_notInQ : Adq K (rInQ K true) oNotInQ := fun F cs H x y dx dy P Q s rx ry ho pe => by
  cases dy <;> try exact ho.elim
  obtain ⟨p1, p2, h⟩ := ho
  cases ry with
  | tup h1 h2 =>
    have a2 := plD_plain _ 20 p2
    refine ⟨_, _, _, _, rfl, ex_t pur_le h1, RepL.dp pur_le 20 h2 p1, Rep.dp pur_le 20 rx p2, (plL_plain _ 20 p1).1, a2.1, Nat.le_trans a2.2 (by decide), ?_⟩
    rw [if_pos rfl, any_eqv _ p2 _ p1]
    exact pe H cs _ _ s (.bl _) h
theorem dt_notinQ (hu : X.A.units + 64 < cLine) (ha : DE X W a wa) (hb : DE X W b wb) (hm : behindInMarks .NotIn b = false := by rfl) : DT X W (.Compare a [.NotIn] [b] pos) (wTest (wOp oNotInQ wa wb)) := dt_cmp (op_notInQ hu) adq_notInQ ha hb hm
theorem r_notinQ {d : D} {xs : List D} {cs : Cs} {P : DP} (h1 : plL 20 xs = true) (h2 : plD 20 d = true) (h : P (.bl (!(xs.any fun z => eqD z d))) cs) : oNotInQ d (.tup xs) cs P := ⟨h1, h2, h⟩
/-- a global tuple of plain things -/
def dvD : He.Dv → D
  | .non => .non
  | .bl b => .bl b
  | .int i => .int i
  | .str x => .str x
  | _ => .non
theorem dv_rep {K : PySem.W.Frag} {G : Hp} : ∀ {vs : List He.Dv}, (vs.all fun v => match v with | .non | .bl _ | .int _ | .str _ => true | _ => false) = true → RepL K G (vs.map (He.Dv.v K)) (vs.map dvD)
  | [], _ => .nil
  | v :: vs, h => by
    simp only [List.all_cons, Bool.and_eq_true] at h
    refine .cons ?_ (dv_rep h.2)
    have h1 := h.1
    cases v <;> first | exact .non | exact .bl _ | exact .int _ | exact .str _ | cases h1
theorem d_gtup {x : Str} {vs : List He.Dv} (hg : Gl X x) (hm : X.mg x = some (.ref (He.ga X.K x))) (ht : He.tupB X.K x vs = true) (hv : (vs.all fun v => match v with | .non | .bl _ | .int _ | .str _ => true | _ => false) = true := by rfl) (hd : (x == ("__debug__" : Str)) = false := by decide) :
    DE X W (.Name x pos) (wC (.tup (vs.map dvD))) := by
  refine PE.imp (pe_glob (v := .ref (He.ga X.K x)) hg hm rfl hd) fun σ H Q hq => ?_
  obtain ⟨F, cs, ρ, P, Z, s, re, hw, pe, px⟩ := hq
  exact pe H cs _ _ s (.tup (He.tupB_ok ht _) (dv_rep hv)) hw
end
end DL
namespace DL
open PySem L2
inductive Tr where
  | lf
  | nd (dn : Bool) (a b : Tr)
def Tr.d : Tr → D
  | .lf => .tup []
  | .nd dn a b => .tup [sideD dn, a.d, b.d]
def Tr.n : Tr → Nat
  | .lf => 1
  | .nd _ a b => a.n + b.n
theorem Tr.n_pos : ∀ t : Tr, 1 ≤ t.n
  | .lf => Nat.le_refl _
  | .nd _ a b => by have := a.n_pos; have := b.n_pos; show 1 ≤ a.n + b.n; omega
theorem Tr.plD : ∀ (t : Tr) (n : Nat), t.n ≤ n → plD n t.d = true
  | .lf, n, h => by
    cases n with
    | zero => cases h
    | succ n => exact plD_tI rfl (by decide)
  | .nd dn a b, n, h => by
    have ha := a.n_pos
    have hb := b.n_pos
    have h' : a.n + b.n ≤ n := h
    cases n with
    | zero => omega
    | succ n =>
      refine plD_tI ?_ (by show 3 ≤ 100000; decide)
      show (DL.plD n (sideD dn) && (DL.plD n a.d && (DL.plD n b.d && true))) = true
      rw [a.plD n (by omega), b.plD n (by omega)]
      cases n <;> rfl
def twoW (ws : List Int) (k : Nat) : List Int := [(ws.take k).sum, (ws.drop k).sum]
def fstB (b : Bx) (ws : List Int) (k : Nat) (dn : Bool) : Bx := splitAt_ b (twoW ws k) dn 0
def sndB (b : Bx) (ws : List Int) (k : Nat) (dn : Bool) : Bx := splitAt_ b (twoW ws k) dn 1
theorem split_two (b : Bx) (ws : List Int) (k : Nat) (dn : Bool) : splitB b (twoW ws k) dn = [fstB b ws k dn, sndB b ws k dn] := rfl
theorem WtOk.take {ws : List Int} (h : WtOk ws) {k : Nat} (h0 : 1 ≤ k) (h1 : k < ws.length) : WtOk (ws.take k) := by
  have := h.l1
  refine ⟨by rw [List.length_take]; omega, by rw [List.length_take]; omega, fun w hw => h.rg w (List.mem_of_mem_take hw)⟩
theorem WtOk.drop {ws : List Int} (h : WtOk ws) {k : Nat} (h1 : k < ws.length) : WtOk (ws.drop k) := by
  have := h.l1
  refine ⟨by rw [List.length_drop]; omega, by rw [List.length_drop]; omega, fun w hw => h.rg w (List.mem_of_mem_drop hw)⟩
theorem twoW_ok {ws : List Int} (h : WtOk ws) {k : Nat} (h0 : 1 ≤ k) (h1 : k < ws.length) : WOk (twoW ws k) := by
  have t := (h.take h0 h1).wok
  have d := (h.drop h1).wok
  have e : (ws.take k).sum + (ws.drop k).sum = ws.sum := by rw [← List.sum_append, List.take_append_drop]
  have hs := h.wok.sum
  refine ⟨by show 1 ≤ 2; decide, by show 2 ≤ 12; decide, fun w hw => ?_, ?_⟩
  · have a := t.sum_pos
    have b := d.sum_pos
    rcases List.mem_cons.mp hw with z | z
    · omega
    · have z := List.mem_singleton.mp z
      omega
  · show (ws.take k).sum + ((ws.drop k).sum + 0) < 2 ^ 23
    omega
theorem fst_pos {b : Bx} (hp : b.Pos) {ws : List Int} (h : WtOk ws) {k : Nat} (h0 : 1 ≤ k) (h1 : k < ws.length) (dn : Bool) : (fstB b ws k dn).Pos := splitAt_pos hp (twoW_ok h h0 h1) dn (i := 0) rfl
theorem snd_pos {b : Bx} (hp : b.Pos) {ws : List Int} (h : WtOk ws) {k : Nat} (h0 : 1 ≤ k) (h1 : k < ws.length) (dn : Bool) : (sndB b ws k dn).Pos := splitAt_pos hp (twoW_ok h h0 h1) dn (i := 1) rfl
/-- sizes of a box that was split so often -/
structure Bx.Lv (b : Bx) (k : Nat) : Prop where
  l : DL.Sz (202 + 320 * k) b.l
  t : DL.Sz (202 + 320 * k) b.t
  w : DL.Sz (202 + 23 * k) b.w
  h : DL.Sz (202 + 23 * k) b.h
theorem Bx.Sz.lv {b : Bx} (h : b.Sz 202) : b.Lv 0 := ⟨h.l, h.t, h.w, h.h⟩
theorem Bx.Lv.sz {b : Bx} {k : Nat} (h : b.Lv k) (hk : k ≤ 5) : b.Sz 1900 := ⟨h.l.mono (by omega), h.t.mono (by omega), h.w.mono (by omega), h.h.mono (by omega)⟩
theorem Bx.Lv.shp {b : Bx} {k : Nat} (h : b.Lv k) (hk : k ≤ 5) (hp : b.Pos) : DL.Sz 4000 (shapeR b.w b.h) := (DL.Sz.shape h.w h.h hp.w hp.h).mono (by omega)
theorem lv_split {b : Bx} {k : Nat} (h : b.Lv k) (hk : k ≤ 4) {ws : List Int} (hw : WOk ws) (dn : Bool) {i : Nat} (hi : i < ws.length) : (splitAt_ b ws dn i).Lv (k + 1) := by
  have e : ws[i]? = some (ws.getD i 0) := by rw [List.getD_eq_getElem?_getD, List.getElem?_eq_getElem hi]; rfl
  have h1 := preS_nonneg hw.pos i
  have h2 := preS_le hw.pos i
  have h3 := hw.sum
  have h4 := hw.sum_pos
  have h5 := mem_le_sum hw.pos e
  have h6 := hw.pos _ (List.mem_of_getElem? e)
  have hx := Sz.frac h1 (by omega) h4 h3
  have hy := Sz.frac (a := ws.getD i 0) (by omega) (by omega) h4 h3
  unfold splitAt_ cutB
  cases dn with
  | true => exact ⟨h.l.mono (by omega), (h.t.add (h.h.mul hx)).mono (by omega), h.w.mono (by omega), (h.h.mul hy).mono (by omega)⟩
  | false => exact ⟨(h.l.add (h.w.mul hx)).mono (by omega), h.t.mono (by omega), (h.w.mul hy).mono (by omega), h.h.mono (by omega)⟩
theorem fst_lv {b : Bx} {j : Nat} (h : b.Lv j) (hj : j ≤ 4) {ws : List Int} (hw : WtOk ws) {k : Nat} (h0 : 1 ≤ k) (h1 : k < ws.length) (dn : Bool) : (fstB b ws k dn).Lv (j + 1) := lv_split h hj (twoW_ok hw h0 h1) dn (by show 0 < 2; decide)
theorem snd_lv {b : Bx} {j : Nat} (h : b.Lv j) (hj : j ≤ 4) {ws : List Int} (hw : WtOk ws) {k : Nat} (h0 : 1 ≤ k) (h1 : k < ws.length) (dn : Bool) : (sndB b ws k dn).Lv (j + 1) := lv_split h hj (twoW_ok hw h0 h1) dn (by show 1 < 2; decide)
def slc : Tr → Bx → List Int → List Bx
  | .lf, b, _ => [b]
  | .nd dn x y, b, ws => slc x (fstB b ws x.n dn) (ws.take x.n) ++ slc y (sndB b ws x.n dn) (ws.drop x.n)
def tw : Tr → Bx → List Int → Rat
  | .lf, b, _ => shapeR b.w b.h
  | .nd dn x y, b, ws => mxR (tw x (fstB b ws x.n dn) (ws.take x.n)) (tw y (sndB b ws x.n dn) (ws.drop x.n))
theorem slc_len : ∀ (t : Tr) (b : Bx) (ws : List Int), (slc t b ws).length = t.n
  | .lf, _, _ => rfl
  | .nd dn x y, b, ws => by
    show (slc x _ _ ++ slc y _ _).length = x.n + y.n
    rw [List.length_append, slc_len x, slc_len y]
theorem slc_ok : ∀ (t : Tr) (b : Bx) (ws : List Int) (k : Nat), t.n = ws.length → WtOk ws → b.Pos → b.Lv k → k + ws.length ≤ 6 → ∀ c ∈ slc t b ws, c.Pos ∧ ∃ j, j ≤ 5 ∧ c.Lv j
  | .lf, b, ws, k, hn, hw, hp, hl, hk, c, hc => by
    rw [List.mem_singleton.mp hc]
    have := hw.l0
    exact ⟨hp, k, by omega, hl⟩
  | .nd dn x y, b, ws, k, hn, hw, hp, hl, hk, c, hc => by
    have hx := x.n_pos
    have hy := y.n_pos
    have hn' : x.n + y.n = ws.length := hn
    have h1 : x.n < ws.length := by omega
    rcases List.mem_append.mp hc with z | z
    · exact slc_ok x _ _ (k + 1) (by rw [List.length_take]; omega) (hw.take hx h1) (fst_pos hp hw hx h1 dn) (fst_lv hl (by omega) hw hx h1 dn) (by rw [List.length_take]; omega) c z
    · exact slc_ok y _ _ (k + 1) (by rw [List.length_drop]; omega) (hw.drop h1) (snd_pos hp hw hx h1 dn) (snd_lv hl (by omega) hw hx h1 dn) (by rw [List.length_drop]; omega) c z
theorem mxR_le {a b c : Rat} : mxR a b ≤ c ↔ a ≤ c ∧ b ≤ c := by
  by_cases h : a < b
  · rw [mxR_pos h]
    exact ⟨fun z => ⟨Rat.le_trans (Rat.le_of_lt h) z, z⟩, fun z => z.2⟩
  · rw [mxR_neg h]
    exact ⟨fun z => ⟨z, Rat.le_trans (Rat.not_lt.mp h) z⟩, fun z => z.1⟩
theorem mxR_mem (a b : Rat) : mxR a b = a ∨ mxR a b = b := by
  by_cases h : a < b
  · exact .inr (mxR_pos h)
  · exact .inl (mxR_neg h)
theorem tw_max : ∀ (t : Tr) (b : Bx) (ws : List Int), IsMax (tw t b ws) ((slc t b ws).map fun c => shapeR c.w c.h)
  | .lf, b, ws => ⟨List.mem_singleton.mpr rfl, fun y hy => by rw [List.mem_singleton.mp hy]; exact Rat.le_refl⟩
  | .nd dn x y, b, ws => by
    have hx := tw_max x (fstB b ws x.n dn) (ws.take x.n)
    have hy := tw_max y (sndB b ws x.n dn) (ws.drop x.n)
    refine ⟨?_, fun z hz => ?_⟩
    · show mxR _ _ ∈ (slc x _ _ ++ slc y _ _).map _
      rw [List.map_append, List.mem_append]
      rcases mxR_mem (tw x (fstB b ws x.n dn) (ws.take x.n)) (tw y (sndB b ws x.n dn) (ws.drop x.n)) with e | e
      · rw [e]; exact .inl hx.mem
      · rw [e]; exact .inr hy.mem
    · have hz' : z ∈ (slc x (fstB b ws x.n dn) (ws.take x.n) ++ slc y (sndB b ws x.n dn) (ws.drop x.n)).map fun c => shapeR c.w c.h := hz
      rw [List.map_append, List.mem_append] at hz'
      have e := mxR_le.mp (Rat.le_refl (a := tw (.nd dn x y) b ws))
      rcases hz' with q | q
      · exact Rat.le_trans (hx.le z q) e.1
      · exact Rat.le_trans (hy.le z q) e.2
theorem slc_ne (t : Tr) (b : Bx) (ws : List Int) : (slc t b ws).map (fun c => shapeR c.w c.h) ≠ [] := fun z => by
  have := congrArg List.length z
  rw [List.length_map, slc_len] at this
  have := t.n_pos
  simp at *
  omega
theorem tw_eq (t : Tr) (b : Bx) (ws : List Int) : maxL ((slc t b ws).map fun c => shapeR c.w c.h) = tw t b ws := maxL_eq (tw_max t b ws)
theorem tw_sz {t : Tr} {b : Bx} {ws : List Int} {k : Nat} (hn : t.n = ws.length) (hw : WtOk ws) (hp : b.Pos) (hl : b.Lv k) (hk : k + ws.length ≤ 6) : DL.Sz 4000 (tw t b ws) := by
  obtain ⟨c, hc, e⟩ := List.mem_map.mp (tw_max t b ws).mem
  obtain ⟨pc, j, hj, lc⟩ := slc_ok t b ws k hn hw hp hl hk c hc
  rw [← e]
  exact lc.shp hj pc
/-- r is the least worst shape of all trees -/
structure LeastT (b : Bx) (ws : List Int) (r : Rat) : Prop where
  is : ∃ t : Tr, t.n = ws.length ∧ tw t b ws = r
  le : ∀ t : Tr, t.n = ws.length → r ≤ tw t b ws
theorem LeastT.uniq {b : Bx} {ws : List Int} {r s : Rat} (h : LeastT b ws r) (h' : LeastT b ws s) : r = s := by
  obtain ⟨t, e1, e2⟩ := h.is
  obtain ⟨u, e3, e4⟩ := h'.is
  exact Rat.le_antisymm (e4 ▸ h.le u e3) (e2 ▸ h'.le t e1)
theorem least_one {b : Bx} {ws : List Int} (h : ws.length = 1) : LeastT b ws (shapeR b.w b.h) := by
  refine ⟨⟨.lf, h.symm, rfl⟩, fun t ht => ?_⟩
  cases t with
  | lf => exact Rat.le_refl
  | nd dn x y =>
    have hx := x.n_pos
    have hy := y.n_pos
    have : x.n + y.n = ws.length := ht
    omega
/-- the least of the two sides, of all places -/
def spotL (n : Nat) : List (Bool × Nat) := (List.range (n - 1)).map (fun i => (true, i + 1)) ++ (List.range (n - 1)).map (fun i => (false, i + 1))
theorem spot_mem {n : Nat} {p : Bool × Nat} : p ∈ spotL n ↔ 1 ≤ p.2 ∧ p.2 < n := by
  obtain ⟨dn, k⟩ := p
  unfold spotL
  simp only [List.mem_append, List.mem_map, List.mem_range, Prod.mk.injEq]
  refine ⟨fun h => ?_, fun h => ?_⟩
  · rcases h with ⟨i, hi, _, rfl⟩ | ⟨i, hi, _, rfl⟩ <;> (constructor <;> omega)
  · cases dn
    · exact .inr ⟨k - 1, by omega, rfl, by omega⟩
    · exact .inl ⟨k - 1, by omega, rfl, by omega⟩
/-- r is the least at the spot -/
def LeastAt (b : Bx) (ws : List Int) (p : Bool × Nat) (r : Rat) : Prop := ∃ r1 r2, LeastT (fstB b ws p.2 p.1) (ws.take p.2) r1 ∧ LeastT (sndB b ws p.2 p.1) (ws.drop p.2) r2 ∧ r = mxR r1 r2
theorem mxR_mono {a b c d : Rat} (h1 : a ≤ c) (h2 : b ≤ d) : mxR a b ≤ mxR c d := by
  have e := mxR_le.mp (Rat.le_refl (a := mxR c d))
  exact mxR_le.mpr ⟨Rat.le_trans h1 e.1, Rat.le_trans h2 e.2⟩
theorem least_many {b : Bx} {ws : List Int} {r : Rat} (hn : 1 < ws.length) (h1 : ∃ p, p ∈ spotL ws.length ∧ LeastAt b ws p r) (h2 : ∀ p ∈ spotL ws.length, ∃ s, LeastAt b ws p s ∧ r ≤ s) : LeastT b ws r := by
  refine ⟨?_, fun t ht => ?_⟩
  · obtain ⟨⟨dn, k⟩, hp, r1, r2, l1, l2, rfl⟩ := h1
    obtain ⟨k0, k1⟩ := spot_mem.mp hp
    simp only at k0 k1
    obtain ⟨x, ex, ex2⟩ := l1.is
    obtain ⟨y, ey, ey2⟩ := l2.is
    have ex' : x.n = k := by rw [ex, List.length_take]; omega
    refine ⟨.nd dn x y, ?_, ?_⟩
    · show x.n + y.n = _
      rw [ex', ey, List.length_drop]; simp only; omega
    · show mxR (tw x (fstB b ws x.n dn) (ws.take x.n)) (tw y (sndB b ws x.n dn) (ws.drop x.n)) = _
      rw [ex', ex2, ey2]
  · cases t with
    | lf => have : 1 = ws.length := ht; omega
    | nd dn x y =>
      have hx := x.n_pos
      have hy := y.n_pos
      have ht' : x.n + y.n = ws.length := ht
      obtain ⟨s, ⟨r1, r2, l1, l2, rfl⟩, hs⟩ := h2 (dn, x.n) (spot_mem.mpr ⟨hx, by simp only; omega⟩)
      refine Rat.le_trans hs (mxR_mono (l1.le x ?_) (l2.le y ?_))
      · rw [List.length_take]; simp only; omega
      · rw [List.length_drop]; simp only; omega
def sdN (dn : Bool) : Nat := if dn then 0 else 1
def spS (n i j : Nat) (p : Bool × Nat) : Prop := (sdN p.1 < i ∧ 1 ≤ p.2 ∧ p.2 < n) ∨ (sdN p.1 = i ∧ 1 ≤ p.2 ∧ p.2 ≤ j)
theorem spS_next {n i : Nat} {p : Bool × Nat} : spS n i (n - 1) p ↔ spS n (i + 1) 0 p := by
  unfold spS
  constructor
  · rintro (⟨h1, h2, h3⟩ | ⟨h1, h2, h3⟩)
    · exact .inl ⟨by omega, h2, h3⟩
    · exact .inl ⟨by omega, h2, by omega⟩
  · rintro (⟨h1, h2, h3⟩ | ⟨h1, h2, h3⟩)
    · by_cases e : sdN p.1 = i
      · exact .inr ⟨e, h2, by omega⟩
      · exact .inl ⟨by omega, h2, h3⟩
    · omega
theorem spS_step {n i j : Nat} {p : Bool × Nat} (dn : Bool) (hd : sdN dn = i) : spS n i (j + 1) p ↔ (spS n i j p ∨ p = (dn, j + 1)) := by
  obtain ⟨e, k⟩ := p
  have inj : sdN e = i → e = dn := fun h => by
    cases e <;> cases dn <;> simp [sdN] at h hd <;> first | rfl | omega
  unfold spS
  simp only [Prod.mk.injEq]
  constructor
  · rintro (⟨h1, h2, h3⟩ | ⟨h1, h2, h3⟩)
    · exact .inl (.inl ⟨h1, h2, h3⟩)
    · by_cases q : k ≤ j
      · exact .inl (.inr ⟨h1, h2, q⟩)
      · exact .inr ⟨inj h1, by omega⟩
  · rintro ((⟨h1, h2, h3⟩ | ⟨h1, h2, h3⟩) | ⟨rfl, rfl⟩)
    · exact .inl ⟨h1, h2, h3⟩
    · exact .inr ⟨h1, h2, by omega⟩
    · exact .inr ⟨hd, by omega, by omega⟩
theorem spS_end {n : Nat} {p : Bool × Nat} : spS n 2 0 p ↔ 1 ≤ p.2 ∧ p.2 < n := by
  obtain ⟨e, k⟩ := p
  unfold spS sdN
  cases e <;> simp <;> omega
theorem spS_zero {n : Nat} {p : Bool × Nat} : ¬ spS n 0 0 p := by
  unfold spS
  rintro (⟨h1, _⟩ | ⟨_, h2, h3⟩) <;> omega
/-- what is found behind the spots S: the least worst shape r -/
def FndR (b : Bx) (ws : List Int) (S : Bool × Nat → Prop) (r : Rat) : Prop := (∃ p, S p ∧ LeastAt b ws p r) ∧ ∀ p, S p → ∃ s, LeastAt b ws p s ∧ r ≤ s
theorem fnd_first {b : Bx} {ws : List Int} {S : Bool × Nat → Prop} {q : Bool × Nat} {s : Rat} (h0 : ∀ p, ¬ S p) (hq : LeastAt b ws q s) : FndR b ws (fun p => S p ∨ p = q) s :=
  ⟨⟨q, .inr rfl, hq⟩, fun p hp => hp.elim (fun z => absurd z (h0 p)) fun e => ⟨s, e ▸ hq, Rat.le_refl⟩⟩
theorem fnd_less {b : Bx} {ws : List Int} {S : Bool × Nat → Prop} {q : Bool × Nat} {r s : Rat} (h : FndR b ws S r) (hq : LeastAt b ws q s) (hl : s < r) : FndR b ws (fun p => S p ∨ p = q) s :=
  ⟨⟨q, .inr rfl, hq⟩, fun p hp => hp.elim (fun z => by
    obtain ⟨u, hu, l⟩ := h.2 p z
    exact ⟨u, hu, Rat.le_trans (Rat.le_of_lt hl) l⟩) fun e => ⟨s, e ▸ hq, Rat.le_refl⟩⟩
theorem fnd_stay {b : Bx} {ws : List Int} {S : Bool × Nat → Prop} {q : Bool × Nat} {r s : Rat} (h : FndR b ws S r) (hq : LeastAt b ws q s) (hl : ¬ s < r) : FndR b ws (fun p => S p ∨ p = q) r := by
  obtain ⟨⟨p0, a1, a2⟩, h2⟩ := h
  exact ⟨⟨p0, .inl a1, a2⟩, fun p hp => hp.elim (fun z => h2 p z) fun e => ⟨s, e ▸ hq, Rat.not_lt.mp hl⟩⟩
theorem fnd_congr {b : Bx} {ws : List Int} {S S' : Bool × Nat → Prop} {r : Rat} (e : ∀ p, S p ↔ S' p) (h : FndR b ws S r) : FndR b ws S' r := by
  rw [show S' = S from funext fun p => propext (e p).symm]
  exact h
theorem fnd_end {b : Bx} {ws : List Int} {r : Rat} (hn : 1 < ws.length) (h : FndR b ws (spS ws.length 2 0) r) : LeastT b ws r := by
  obtain ⟨⟨p0, a1, a2⟩, h2⟩ := h
  exact least_many hn ⟨p0, spot_mem.mpr (spS_end.mp a1), a2⟩ fun p hp => h2 p (spS_end.mpr (spot_mem.mp hp))
/-- a tree of the spot, from trees of the halves -/
theorem tw_nd (dn : Bool) (x y : Tr) (b : Bx) (ws : List Int) {k : Nat} (hx : x.n = k) : tw (.nd dn x y) b ws = mxR (tw x (fstB b ws k dn) (ws.take k)) (tw y (sndB b ws k dn) (ws.drop k)) := by
  subst hx; rfl
end DL
namespace DL
open PySem PySem.Spec PyProof.Rows L2
section
variable {X : Cx} {W : WX} {es : List Expr} {pos : Pos}
def gL (n : Nat) (gs : WGs) : WG := fun d ρ k => match d with
  | .lst ds => ds.length = n ∧ gs ds ρ k
  | _ => False
theorem dg_lst {kk : Nat} {gs : WGs} {n : Nat} (hc : X.calm = true) (h : DGs X es gs) (hn : (assignEach es X.env).length = n := by rfl) (hst : (assignEach es X.env).findIdx? (·.1) = none := by rfl) : DG X (.Tuple es kk pos) (gL n gs) :=
  PG.imp (L2.pg_lst hc h hn hst) fun v σ H Q hq => by
    obtain ⟨F, cs, ρ, d, k, s, re, r, hw, q⟩ := hq
    cases d <;> try exact hw.elim
    cases r with
    | lst h r => exact ⟨_, _, rfl, ex_l pur_le h, by rw [r.length]; exact hw.1, F, cs, ρ, _, k, s, re, r, hw.2, q⟩
theorem r_gL {n : Nat} {gs : WGs} {ds : List D} {ρ : DL.Env} {k : DL.Env → Prop} (hl : ds.length = n) (h : gs ds ρ k) : gL n gs (.lst ds) ρ k := ⟨hl, h⟩
end
theorem sideD_inj {a b : Bool} (h : sideD a = sideD b) : a = b := by
  cases a <;> cases b <;> first | rfl | (injection h with h; exact absurd h (by decide))
theorem Tr.d_inj : ∀ {t u : Tr}, t.d = u.d → t = u
  | .lf, .lf, _ => rfl
  | .lf, .nd _ _ _, e => by cases e
  | .nd _ _ _, .lf, e => by cases e
  | .nd dn a b, .nd dm c e, h => by
    have h' : D.tup [sideD dn, a.d, b.d] = D.tup [sideD dm, c.d, e.d] := h
    injection h' with h'
    injection h' with h1 h2
    injection h2 with h2 h3
    injection h3 with h3 _
    rw [Tr.d_inj h2, Tr.d_inj h3, sideD_inj h1]
theorem eqD_nilT (d : D) : eqD d (.tup []) = true ↔ d = .tup [] := by
  cases d with
  | tup xs => cases xs <;> simp [eqD, eqL]
  | _ => simp [eqD]
theorem any_sides (s : D) : ([D.str "down", D.str "across"].any fun z => eqD z s) = true ↔ ∃ dn, s = sideD dn := by
  cases s with
  | str x =>
    simp only [List.any_cons, List.any_nil, Bool.or_false, Bool.or_eq_true, eqD, beq_iff_eq]
    constructor
    · rintro (h | h)
      · exact ⟨true, by rw [← h]; rfl⟩
      · exact ⟨false, by rw [← h]; rfl⟩
    · rintro ⟨dn, h⟩
      cases dn
      · injection h with h; exact .inr h.symm
      · injection h with h; exact .inl h.symm
  | _ => simp [eqD] <;> exact ⟨fun h => (by cases h), fun h => (by cases h)⟩
theorem r_eqNilT {d : D} {cs : Cs} {P : DP} (hd : plD 20 d = true) (ht : d = .tup [] → P (.bl true) cs) (hf : d ≠ .tup [] → P (.bl false) cs) : oEq d (.tup []) cs P := by
  refine ⟨hd, rfl, ?_⟩
  by_cases e : d = .tup []
  · rw [(eqD_nilT d).mpr e]; exact ht e
  · rw [show eqD d (.tup []) = false from Bool.eq_false_iff.mpr fun z => e ((eqD_nilT d).mp z)]; exact hf e
theorem r_ninSides {d : D} {cs : Cs} {P : DP} (hd : plD 20 d = true) (ht : ∀ dn, d = sideD dn → P (.bl false) cs) (hf : (∀ dn, d ≠ sideD dn) → P (.bl true) cs) : oNotInQ d (.tup [.str "down", .str "across"]) cs P := by
  refine r_notinQ rfl hd ?_
  by_cases e : ∃ dn, d = sideD dn
  · rw [(any_sides d).mpr e]; exact ht _ e.choose_spec
  · rw [show ([D.str "down", D.str "across"].any fun z => eqD z d) = false from Bool.eq_false_iff.mpr fun z => e ((any_sides d).mp z)]; exact hf fun dn h => e ⟨dn, h⟩
def badD : D → Bool
  | .dic _ | .dct _ | .ins _ _ | .xcp _ _ _ _ | .opq _ => true
  | _ => false
theorem plD_bad {n : Nat} {d : D} (h : plD n d = true) (hb : badD d = true) : False := by
  cases d <;> cases n <;> first | (cases hb; done) | (cases h; done)
theorem len_three {xs : List D} (h : xs.length = 3) : ∃ a b c, xs = [a, b, c] := by
  match xs, h with
  | [a, b, c], _ => exact ⟨a, b, c, rfl⟩
open Classical in
/-- whether the data are a tree of so many things -/
noncomputable def isTr (d : D) (m : Int) : Bool := decide (∃ t : Tr, d = t.d ∧ (t.n : Int) = m)
theorem isTr_iff {d : D} {m : Int} : isTr d m = true ↔ ∃ t : Tr, d = t.d ∧ (t.n : Int) = m := by unfold isTr; simp only [decide_eq_true_eq]
theorem isTr_no {d : D} {m : Int} (h : ∀ t : Tr, d ≠ t.d) : isTr d m = false := Bool.eq_false_iff.mpr fun z => by
  obtain ⟨t, e, _⟩ := isTr_iff.mp z
  exact h t e
theorem isTr_nil (m : Int) : isTr (.tup []) m = decide (m = 1) := by
  rw [Bool.eq_iff_iff, isTr_iff, decide_eq_true_iff]
  constructor
  · rintro ⟨t, e, h⟩
    cases t with
    | lf => exact h.symm
    | nd => cases e
  · intro h
    exact ⟨.lf, rfl, h.symm⟩
theorem isTr_t (t : Tr) (m : Int) : isTr t.d m = decide ((t.n : Int) = m) := by
  rw [Bool.eq_iff_iff, isTr_iff, decide_eq_true_iff]
  constructor
  · rintro ⟨u, e, h⟩
    rw [Tr.d_inj e]; exact h
  · intro h
    exact ⟨t, rfl, h⟩
theorem isTr_nd (dn : Bool) (a b : D) {m : Int} {n : Nat} (hn : (m - 1).toNat = n) : ((List.range n).any fun i => isTr a ((1 + i : Nat) : Int) && isTr b (m - ((1 + i : Nat) : Int))) = isTr (.tup [sideD dn, a, b]) m := by
  rw [Bool.eq_iff_iff, isTr_iff, List.any_eq_true]
  simp only [Bool.and_eq_true, isTr_iff, List.mem_range]
  constructor
  · rintro ⟨i, hi, ⟨x, rfl, h1⟩, y, rfl, h2⟩
    exact ⟨.nd dn x y, rfl, by show ((x.n + y.n : Nat) : Int) = m; omega⟩
  · rintro ⟨t, e, h⟩
    cases t with
    | lf => cases e
    | nd dm x y =>
      have hx := x.n_pos
      have hy := y.n_pos
      have h' : ((x.n + y.n : Nat) : Int) = m := h
      injection e with e
      injection e with _ e
      injection e with e1 e
      injection e with e2 _
      exact ⟨x.n - 1, by omega, ⟨x, e1, by omega⟩, y, e2, by omega⟩
section
variable {gd : WG} {wt : WT} {we : DL.WE} {d : D} {r : List D} {ρ : DL.Env} {cs : Cs} {acc : List D} {P : List D → Cs → Prop}
theorem r_ccons (h : gd d ρ fun ρ1 => wt ρ1 cs (fun b cs1 => (b = true → we ρ1 cs1 (fun y cs2 => compW gd wt we r ρ cs2 (acc ++ [y]) P) Z0) ∧ (b = false → compW gd wt we r ρ cs1 acc P)) Z0) : compW gd wt we (d :: r) ρ cs acc P := h
theorem r_cnil (h : P acc cs) : compW gd wt we [] ρ cs acc P := h
end
end DL
namespace DL
open PySem
open PySem.Sem (wp)
def sqH (t : Bool) (h : Heap) (l : Addr) (xs : Array Value) : Prop := match t with
  | true => h.IsTuple l xs
  | false => h.IsList l xs
def sqI (t : Bool) (h : Heap) (it l : Addr) (i : Nat) : Prop := match t with
  | true => h.IsTupleIter it l i
  | false => h.IsListIter it l i
def itC : Bool → String
  | true => "tuple_iterator"
  | false => "list_iterator"
theorem sqI_iff {t : Bool} {h : Heap} {it l : Addr} {i : Nat} : sqI t h it l i ↔ ∃ o, h.get? it = some o ∧ o.cls = .type (itC t) ∧ o.data = .fields #[.ref l, .int i 0] := by cases t <;> exact Iff.rfl
theorem sqH.ext {t : Bool} {h h' : Heap} {a b : Addr} {xs : Array Value} (x : sqH t h a xs) (hs : Heap.ExtBut b h h') (hab : a ≠ b) : sqH t h' a xs := by
  cases t
  · exact Heap.IsList.extBut x hs hab
  · exact Heap.IsTuple.extBut x hs hab
theorem sqH.push {t : Bool} {h : Heap} {a : Addr} {xs : Array Value} (x : sqH t h a xs) (o : Obj) : sqH t (h.push o) a xs := by
  cases t
  · exact Heap.IsList.push x o
  · exact Heap.IsTuple.push x o
theorem sqH.lt {t : Bool} {h : Heap} {a : Addr} {xs : Array Value} (x : sqH t h a xs) : a < h.objs.size := by
  cases t
  · obtain ⟨o, e, _⟩ := (show h.IsList a xs from x); exact Heap.lt_size e
  · obtain ⟨o, e, _⟩ := (show h.IsTuple a xs from x); exact Heap.lt_size e
theorem sqI.ext {t : Bool} {h h' : Heap} {a l b : Addr} {i : Nat} (x : sqI t h a l i) (hs : Heap.ExtBut b h h') (hab : a ≠ b) : sqI t h' a l i := by
  obtain ⟨o, e, c, d⟩ := sqI_iff.mp x
  exact sqI_iff.mpr ⟨o, hs a o hab e, c, d⟩
theorem sqI.at {t : Bool} {h h' : Heap} {a l : Addr} {i : Nat} (x : sqI t h a l i) (hk : ∀ o, h.get? a = some o → h'.get? a = some o) : sqI t h' a l i := by
  obtain ⟨o, e, c, d⟩ := sqI_iff.mp x
  exact sqI_iff.mpr ⟨o, hk o e, c, d⟩
theorem sqI.lt {t : Bool} {h : Heap} {a l : Addr} {i : Nat} (x : sqI t h a l i) : a < h.objs.size := by
  obtain ⟨o, e, _⟩ := sqI_iff.mp x
  exact Heap.lt_size e
section
variable {prog : Program} {w : World} {A : Around} {E : Value → Shared → Prop} {s : Shared}
theorem next_item {t : Bool} {it l : Addr} {i : Nat} {xs : Array Value} {x : Value} {Q : Value → Shared → Prop} (hit : sqI t s.heap it l i) (hl : sqH t s.heap l xs) (hx : xs[i]? = some x)
    (hQ : ∀ h', sqI t h' it l (i + 1) → Heap.SameBut it s.heap h' → Q x { s with heap := h' }) : wpAny (model prog w) A (Builtin.SmallTypes.nextOf (.ref it)) Q E s := by
  cases t
  · exact wpAny_nextOf_list_item hit hl hx hQ
  · exact RZ.nextOf_tuple_item hit hl hx hQ
theorem next_end {t : Bool} {it l : Addr} {i : Nat} {xs : Array Value} {Q : Value → Shared → Prop} (hh : A.handled = none) (hit : sqI t s.heap it l i) (hl : sqH t s.heap l xs) (hx : xs[i]? = none)
    (hE : ∀ h' e, Heap.ExtBut it s.heap h' → (∃ o, h'.get? e = some o ∧ o.cls = .type "StopIteration") → E (.ref e) { s with heap := h' }) : wpAny (model prog w) A (Builtin.SmallTypes.nextOf (.ref it)) Q E s := by
  cases t
  · exact wpAny_nextOf_list_end hh hit hl hx hE
  · exact RZ.nextOf_tuple_end hh hit hl hx hE
/-- what a zip of two is, as it stands: the zip, its two iterators, its own pair -/
structure ZSt (t u : Bool) (h : Heap) (z TI TO i1 i2 l1 l2 : Addr) (k : Nat) (f : Value) : Prop where
  z : IsZip h z TI TO f
  TI : IsPair h TI (.ref i1) (.ref i2)
  TO : ∃ a b, IsPair h TO a b
  i1 : sqI t h i1 l1 k
  i2 : sqI u h i2 l2 k
variable {t u : Bool} {z TI TO i1 i2 l1 l2 : Addr} {k : Nat} {xs ys : Array Value} {x y : Value}
theorem mz_item {Q : Value → Shared → Prop} (D : ZipApart z TI TO i1 i2 l1 l2) (Z : ZSt t u s.heap z TI TO i1 i2 l1 l2 k .none) (hl1 : sqH t s.heap l1 xs) (hl2 : sqH u s.heap l2 ys) (hx : xs[k]? = some x) (hy : ys[k]? = some y)
    (hQ : ∀ h', ZSt t u h' z TI TO i1 i2 l1 l2 (k + 1) (rawInt s.heap.objs.size) → IsPair h' s.heap.objs.size x y → 
      (∀ c o, c ≠ z → c ≠ TO → c ≠ i1 → c ≠ i2 → s.heap.get? c = some o → h'.get? c = some o) → Q (.ref s.heap.objs.size) { s with heap := h' }) :
    wpAny (model prog w) A (Builtin.«zip.__next__» ⟨[.ref z], []⟩) (fun fin s' => ∃ v, fin = .done (.ret v) ∧ Q v s') E s := by
  obtain ⟨hz, hTI, ⟨a, b, hTO⟩, h1, h2⟩ := Z
  show wpAny _ _ (field (.ref z) 2 >>= _) _ _ _
  refine wpAny_bind (wpAny_field hz rfl (x := .bool false) rfl ?_)
  show wpAny _ _ (field (.ref z) 3 >>= _) _ _ _
  refine wpAny_bind (wpAny_field hz rfl (x := .ref TI) rfl ?_)
  refine wpAny_bind (wpAny_seqItems hTI rfl ?_)
  show wpAny _ _ (Builtin.SmallTypes.ownedTupleIsFree (.ref z) >>= _) _ _ _
  refine wpAny_bind ?_
  unfold Builtin.SmallTypes.ownedTupleIsFree
  refine wpAny_bind (wpAny_field hz rfl (x := .none) rfl (wpAny_pure ?_))
  simp only [if_true]
  refine wpAny_bind (wpAny_rule ?_)
  refine wpAny_bind (wpAny_field hz rfl (x := .ref TO) rfl ?_)
  refine wpAny_bind (wpAny_setField_rec hz (by simp) fun hA zA sA => ?_)
  replace zA : IsZip hA z TI TO .ellipsis := zA
  refine wpAny_bind ?_
  simp only [List.zipIdx_cons, List.zipIdx_nil, List.forIn_cons, List.forIn_nil]
  refine wpAny_bind (wpAny_bind (wpAny_onRaise ?_))
  show wpAny _ _ (Builtin.SmallTypes.nextOf (.ref i1) >>= _) _ _ _
  refine wpAny_bind (next_item (h1.ext sA.extBut D.i1z) (hl1.ext sA.extBut D.l1z) hx fun hB n1 sB => wpAny_pure ?_)
  have oB : IsPair hB TO a b := sB.extBut _ _ D.TOi1 (sA.extBut _ _ D.TOz hTO)
  refine wpAny_bind (wpAny_seqItems oB rfl ?_)
  refine wpAny_bind (wpAny_updateSeq_pair oB fun hC oC sC => ?_)
  replace oC : IsPair hC TO x b := oC
  refine wpAny_bind (wpAny_letGo (wpAny_pure ?_))
  refine wpAny_bind (wpAny_bind (wpAny_onRaise ?_))
  show wpAny _ _ (Builtin.SmallTypes.nextOf (.ref i2) >>= _) _ _ _
  refine wpAny_bind (next_item (((h2.ext sA.extBut D.i2z).ext sB.extBut D.i12.symm).ext sC.extBut D.TOi2.symm) (((hl2.ext sA.extBut D.l2z).ext sB.extBut D.l2i1).ext sC.extBut D.l2TO) hy fun hD n2 sD => wpAny_pure ?_)
  have oD : IsPair hD TO x b := sD.extBut _ _ D.TOi2 oC
  refine wpAny_bind (wpAny_seqItems oD rfl ?_)
  refine wpAny_bind (wpAny_updateSeq_pair oD fun hE' oE sE => ?_)
  replace oE : IsPair hE' TO x y := oE
  refine wpAny_bind (wpAny_letGo (wpAny_pure (wpAny_pure ?_)))
  refine wpAny_bind (wpAny_seqItems oE rfl ?_)
  refine wpAny_bind (wpAny_newTuple ?_)
  have hsz : hE'.objs.size = s.heap.objs.size := by rw [sE.1, sD.1, sC.1, sB.1, sA.1]
  have zE : IsZip hE' z TI TO .ellipsis := sE.extBut _ _ D.TOz.symm (sD.extBut _ _ D.i2z.symm (sC.extBut _ _ D.TOz.symm (sB.extBut _ _ D.i1z.symm zA)))
  have kE : ∀ c o, c ≠ z → c ≠ TO → c ≠ i1 → c ≠ i2 → s.heap.get? c = some o → hE'.get? c = some o := fun c o c1 c2 c3 c4 e =>
    sE.extBut _ _ c2 (sD.extBut _ _ c4 (sC.extBut _ _ c2 (sB.extBut _ _ c3 (sA.extBut _ _ c1 e))))
  have n1' := ((n1.ext sC.extBut D.TOi1.symm).ext sD.extBut D.i12).ext sE.extBut D.TOi1.symm
  have n2' := n2.ext sE.extBut D.TOi2.symm
  have zlt : z < hE'.objs.size := Heap.lt_size zE
  show wpAny _ _ (Builtin.SmallTypes.ownedTupleHandOut (.ref z) (.ref hE'.objs.size) >>= _) _ _ _
  refine wpAny_bind ?_
  unfold Builtin.SmallTypes.ownedTupleHandOut
  have zF : IsZip (hE'.push { cls := .type "tuple", data := .seq #[x, y] }) z TI TO .ellipsis := Heap.get?_push_of_some _ zE
  refine wpAny_bind (wpAny_setField_rec zF (by simp) fun hG zG sG => ?_)
  replace zG : IsZip hG z TI TO (rawInt hE'.objs.size) := zG
  refine wpAny_setField_rec zG (by simp) fun hH zH sH => ?_
  replace zH : IsZip hH z TI TO (rawInt hE'.objs.size) := zH
  have up : ∀ c o, c ≠ z → hE'.get? c = some o → hH.get? c = some o := fun c o c1 e => sH.extBut _ _ c1 (sG.extBut _ _ c1 (Heap.get?_push_of_some _ e))
  have tH : IsPair hH hE'.objs.size x y := sH.extBut _ _ (Nat.ne_of_gt zlt) (sG.extBut _ _ (Nat.ne_of_gt zlt) (Heap.get?_push_size _ rfl))
  rw [hsz] at zH tH
  refine wpAny_pure ⟨_, rfl, ?_⟩
  show Q (.ref hE'.objs.size) _
  rw [hsz]
  exact hQ hH ⟨zH, up _ _ D.TIz (kE _ _ D.TIz D.TITO D.TIi1 D.TIi2 hTI), ⟨_, _, up _ _ D.TOz oE⟩, n1'.at fun o e => up _ o D.i1z e, n2'.at fun o e => up _ o D.i2z e⟩ tH fun c o c1 c2 c3 c4 e => up c o c1 (kE c o c1 c2 c3 c4 e)
theorem mz_end {Q : PySem.Fin → Shared → Prop} (hh : A.handled = none) (D : ZipApart z TI TO i1 i2 l1 l2) (Z : ZSt t u s.heap z TI TO i1 i2 l1 l2 k .none) (hl1 : sqH t s.heap l1 xs) (hl2 : sqH u s.heap l2 ys) (hend : xs[k]? = none ∨ ys[k]? = none)
    (hE : ∀ h' e, (∀ c o, c ≠ z → c ≠ TO → c ≠ i1 → c ≠ i2 → s.heap.get? c = some o → h'.get? c = some o) → (∃ o, h'.get? e = some o ∧ o.cls = .type "StopIteration") → E (.ref e) { s with heap := h' }) :
    wpAny (model prog w) A (Builtin.«zip.__next__» ⟨[.ref z], []⟩) Q E s := by
  obtain ⟨hz, hTI, ⟨a, b, hTO⟩, h1, h2⟩ := Z
  show wpAny _ _ (field (.ref z) 2 >>= _) _ _ _
  refine wpAny_bind (wpAny_field hz rfl (x := .bool false) rfl ?_)
  show wpAny _ _ (field (.ref z) 3 >>= _) _ _ _
  refine wpAny_bind (wpAny_field hz rfl (x := .ref TI) rfl ?_)
  refine wpAny_bind (wpAny_seqItems hTI rfl ?_)
  show wpAny _ _ (Builtin.SmallTypes.ownedTupleIsFree (.ref z) >>= _) _ _ _
  refine wpAny_bind ?_
  unfold Builtin.SmallTypes.ownedTupleIsFree
  refine wpAny_bind (wpAny_field hz rfl (x := .none) rfl (wpAny_pure ?_))
  simp only [if_true]
  refine wpAny_bind (wpAny_rule ?_)
  refine wpAny_bind (wpAny_field hz rfl (x := .ref TO) rfl ?_)
  refine wpAny_bind (wpAny_setField_rec hz (by simp) fun hA zA sA => ?_)
  replace zA : IsZip hA z TI TO .ellipsis := zA
  refine wpAny_bind ?_
  simp only [List.zipIdx_cons, List.zipIdx_nil, List.forIn_cons, List.forIn_nil]
  refine wpAny_bind (wpAny_bind (wpAny_onRaise ?_))
  show wpAny _ _ (Builtin.SmallTypes.nextOf (.ref i1) >>= _) _ _ _
  have stop : ∀ {h' : Heap} {e : Addr}, IsZip h' z TI TO .ellipsis → (∃ o, h'.get? e = some o ∧ o.cls = .type "StopIteration") → e ≠ z := fun q ⟨o, e1, e2⟩ r => by
    subst r; rw [q] at e1; cases e1; simp at e2
  cases hx : xs[k]? with
  | none =>
    refine wpAny_bind (next_end hh (h1.ext sA.extBut D.i1z) (hl1.ext sA.extBut D.l1z) hx fun hB e sB he => ?_)
    have zB : IsZip hB z TI TO .ellipsis := sB _ _ D.i1z.symm zA
    have ne := stop zB he
    obtain ⟨o, e1, e2⟩ := he
    refine wpAny_setField_rec zB (by simp) fun hC _ sC => hE hC e (fun c o c1 _ c3 _ q => sC.extBut _ _ c1 (sB _ _ c3 (sA.extBut _ _ c1 q))) ⟨o, sC.extBut _ _ ne e1, e2⟩
  | some x =>
    have hy : ys[k]? = none := by rcases hend with h | h; rw [hx] at h; cases h; exact h
    refine wpAny_bind (next_item (h1.ext sA.extBut D.i1z) (hl1.ext sA.extBut D.l1z) hx fun hB n1 sB => wpAny_pure ?_)
    have oB : IsPair hB TO a b := sB.extBut _ _ D.TOi1 (sA.extBut _ _ D.TOz hTO)
    refine wpAny_bind (wpAny_seqItems oB rfl ?_)
    refine wpAny_bind (wpAny_updateSeq_pair oB fun hC oC sC => ?_)
    refine wpAny_bind (wpAny_letGo (wpAny_pure ?_))
    refine wpAny_bind (wpAny_bind (wpAny_onRaise ?_))
    show wpAny _ _ (Builtin.SmallTypes.nextOf (.ref i2) >>= _) _ _ _
    refine wpAny_bind (next_end hh (((h2.ext sA.extBut D.i2z).ext sB.extBut D.i12.symm).ext sC.extBut D.TOi2.symm) (((hl2.ext sA.extBut D.l2z).ext sB.extBut D.l2i1).ext sC.extBut D.l2TO) hy fun hD e sD he => ?_)
    have zD : IsZip hD z TI TO .ellipsis := sD _ _ D.i2z.symm (sC.extBut _ _ D.TOz.symm (sB.extBut _ _ D.i1z.symm zA))
    have ne := stop zD he
    obtain ⟨o, e1, e2⟩ := he
    refine wpAny_setField_rec zD (by simp) fun hF _ sF => hE hF e (fun c o c1 c2 c3 c4 q => sF.extBut _ _ c1 (sD _ _ c4 (sC.extBut _ _ c2 (sB.extBut _ _ c3 (sA.extBut _ _ c1 q))))) ⟨o, sF.extBut _ _ ne e1, e2⟩
theorem mz_next {Q : Option Value → Shared → Prop} (D : ZipApart z TI TO i1 i2 l1 l2) (Z : ZSt t u s.heap z TI TO i1 i2 l1 l2 k .none) (hl1 : sqH t s.heap l1 xs) (hl2 : sqH u s.heap l2 ys) (hx : xs[k]? = some x) (hy : ys[k]? = some y)
    (hQ : ∀ h', ZSt t u h' z TI TO i1 i2 l1 l2 (k + 1) (rawInt s.heap.objs.size) → IsPair h' s.heap.objs.size x y → 
      (∀ c o, c ≠ z → c ≠ TO → c ≠ i1 → c ≠ i2 → s.heap.get? c = some o → h'.get? c = some o) → Q (some (.ref s.heap.objs.size)) { s with heap := h' }) :
    wpAny (model prog w) A (pyNext (.ref z)) Q E s := by
  have hT : s.TypeIs (.ref z) "zip" := ⟨_, Z.z, rfl⟩
  unfold pyNext
  exact wpAny_bind (wpAny_attempt (wpAny_callSpecial?_slot (name := Str.ofString "__next__") hT F.slot_zip_next (wpAny_call_entry F.slot_zip_next hT F.entry_zip_next (mz_item D Z hl1 hl2 hx hy fun h' a1 a2 a3 => wpAny_pure (hQ h' a1 a2 a3)) (F.args_zip_next_1 _))))
theorem mz_stop {Q : Option Value → Shared → Prop} (hh : A.handled = none) (D : ZipApart z TI TO i1 i2 l1 l2) (Z : ZSt t u s.heap z TI TO i1 i2 l1 l2 k .none) (hl1 : sqH t s.heap l1 xs) (hl2 : sqH u s.heap l2 ys) (hend : xs[k]? = none ∨ ys[k]? = none)
    (hQ : ∀ h', (∀ c o, c ≠ z → c ≠ TO → c ≠ i1 → c ≠ i2 → s.heap.get? c = some o → h'.get? c = some o) → Q none { s with heap := h' }) : wpAny (model prog w) A (pyNext (.ref z)) Q E s := by
  have hT : s.TypeIs (.ref z) "zip" := ⟨_, Z.z, rfl⟩
  unfold pyNext
  refine wpAny_bind (wpAny_attempt (wpAny_callSpecial?_slot (name := Str.ofString "__next__") hT F.slot_zip_next (wpAny_call_entry F.slot_zip_next hT F.entry_zip_next (mz_end hh D Z hl1 hl2 hend fun h' e hk he => ?_) (F.args_zip_next_1 _))))
  obtain ⟨o, ho, hc⟩ := he
  refine wpAny_bind (wpAny_isInstance (T := "StopIteration") (b := true) ⟨o, ho, hc⟩ isSubtype_stop ?_)
  exact wpAny_pure (hQ _ hk)
end
abbrev mzA (t : Bool) (h : Heap) (l : Addr) : Heap := h.push { cls := .type (itC t), data := .fields #[.ref l, .int 0 0] }
abbrev mzB (t u : Bool) (h : Heap) (l m : Addr) : Heap := (mzA t h l).push { cls := .type (itC u), data := .fields #[.ref m, .int 0 0] }
abbrev mzC (t u : Bool) (h : Heap) (l m : Addr) : Heap := (mzB t u h l m).push { cls := .type "tuple", data := .seq #[.ref h.objs.size, .ref (mzA t h l).objs.size] }
abbrev mzD (t u : Bool) (h : Heap) (l m : Addr) : Heap := (mzC t u h l m).push { cls := .type "tuple", data := .seq #[.none, .none] }
abbrev mzE (t u : Bool) (h : Heap) (l m : Addr) : Heap := (mzD t u h l m).push { cls := .type "zip", data := .fields #[.none, .bool false, .bool false, .ref (mzB t u h l m).objs.size, .ref (mzC t u h l m).objs.size] }
theorem mz_new (t u : Bool) (l m : Addr) (xs ys : Array Value) :
    Meets (Builtin.«zip.__new__» ⟨[.type "zip", .ref l, .ref m], []⟩) (fun _ R s => sqH t s.heap l xs ∧ sqH u s.heap m ys ∧ R (.ok (.ret (.ref (mzD t u s.heap l m).objs.size))) { s with heap := mzE t u s.heap l m }) :=
  .of_wp fun prog w A R s h => by
    obtain ⟨hp, g, d, tk, os⟩ := s; obtain ⟨hl1, hl2, h⟩ := h
    have hsub := sub_zip
    have hL2 := sqH.push hl2 { cls := .type (itC t), data := .fields #[.ref l, .int 0 0] }
    cases t <;> cases u
    · have hL1 : Heap.IsList (Shared.heap ⟨hp, g, d, tk, os⟩) l xs := hl1
      have hL2 : Heap.IsList (Shared.heap ⟨hp.push { cls := .type "list_iterator", data := .fields #[.ref l, .int 0 0] }, g, d, tk, os⟩) m ys := hL2
      wp_walk using wpAny_pyIter_list hL1, wpAny_pyIter_list hL2
      exact ⟨_, rfl, h⟩
    · have hL1 : Heap.IsList (Shared.heap ⟨hp, g, d, tk, os⟩) l xs := hl1
      have hL2 : Heap.IsTuple (Shared.heap ⟨hp.push { cls := .type "list_iterator", data := .fields #[.ref l, .int 0 0] }, g, d, tk, os⟩) m ys := hL2
      wp_walk using wpAny_pyIter_list hL1, wpAny_pyIter_tuple hL2
      exact ⟨_, rfl, h⟩
    · have hL1 : Heap.IsTuple (Shared.heap ⟨hp, g, d, tk, os⟩) l xs := hl1
      have hL2 : Heap.IsList (Shared.heap ⟨hp.push { cls := .type "tuple_iterator", data := .fields #[.ref l, .int 0 0] }, g, d, tk, os⟩) m ys := hL2
      wp_walk using wpAny_pyIter_tuple hL1, wpAny_pyIter_list hL2
      exact ⟨_, rfl, h⟩
    · have hL1 : Heap.IsTuple (Shared.heap ⟨hp, g, d, tk, os⟩) l xs := hl1
      have hL2 : Heap.IsTuple (Shared.heap ⟨hp.push { cls := .type "tuple_iterator", data := .fields #[.ref l, .int 0 0] }, g, d, tk, os⟩) m ys := hL2
      wp_walk using wpAny_pyIter_tuple hL1, wpAny_pyIter_tuple hL2
      exact ⟨_, rfl, h⟩
theorem mz_call {prog : Program} {w : World} {A : Around} {E : Value → Shared → Prop} {s : Shared} {t u : Bool} {l m : Addr} {xs ys : Array Value} {Q : Value → Shared → Prop} (hl1 : sqH t s.heap l xs) (hl2 : sqH u s.heap m ys)
    (h : ∀ h', ZSt t u h' (s.heap.objs.size + 4) (s.heap.objs.size + 2) (s.heap.objs.size + 3) s.heap.objs.size (s.heap.objs.size + 1) l m 0 .none → (∀ c o, s.heap.get? c = some o → h'.get? c = some o) → Q (.ref (s.heap.objs.size + 4)) { s with heap := h' }) :
    wpAny (model prog w) A (call (.type "zip") [.ref l, .ref m]) Q E s := by
  refine callType_new F.called_zip (by decide) (F.typeCall_zip_2 _ _) (F.newCall_zip_2 _ _) (fun obj => F.args_object_init_3 obj _ _) F.entry_zip_new (mz_new t u l m xs ys) ⟨hl1, hl2, ?_⟩
  have z1 : (mzA t s.heap l).objs.size = s.heap.objs.size + 1 := Heap.size_push ..
  have z2 : (mzB t u s.heap l m).objs.size = s.heap.objs.size + 2 := by rw [Heap.size_push, z1]
  have z3 : (mzC t u s.heap l m).objs.size = s.heap.objs.size + 3 := by rw [Heap.size_push, z2]
  have z4 : (mzD t u s.heap l m).objs.size = s.heap.objs.size + 4 := by rw [Heap.size_push, z3]
  have g5 : (mzE t u s.heap l m).get? (mzD t u s.heap l m).objs.size = some _ := Heap.get?_push_size _ rfl
  have g4 : (mzE t u s.heap l m).get? (mzC t u s.heap l m).objs.size = some _ := Heap.get?_push_of_some _ (Heap.get?_push_size _ rfl)
  have g3 : (mzE t u s.heap l m).get? (mzB t u s.heap l m).objs.size = some _ := Heap.get?_push_of_some _ (Heap.get?_push_of_some _ (Heap.get?_push_size _ rfl))
  have g2 : (mzE t u s.heap l m).get? (mzA t s.heap l).objs.size = some _ := Heap.get?_push_of_some _ (Heap.get?_push_of_some _ (Heap.get?_push_of_some _ (Heap.get?_push_size _ rfl)))
  have g1 : (mzE t u s.heap l m).get? s.heap.objs.size = some _ := Heap.get?_push_of_some _ (Heap.get?_push_of_some _ (Heap.get?_push_of_some _ (Heap.get?_push_of_some _ (Heap.get?_push_size _ rfl))))
  show _ ∧ _
  rw [z2, z3, z4] at g5
  rw [z1, z2] at g3
  rw [z3] at g4
  rw [z1] at g2
  rw [z4]
  exact ⟨⟨_, g5, rfl⟩, h _ ⟨g5, g3, ⟨_, _, g4⟩, sqI_iff.mpr ⟨_, g1, rfl, rfl⟩, sqI_iff.mpr ⟨_, g2, rfl, rfl⟩⟩ fun c o q =>
    Heap.get?_push_of_some _ (Heap.get?_push_of_some _ (Heap.get?_push_of_some _ (Heap.get?_push_of_some _ (Heap.get?_push_of_some _ q))))⟩
section
open PySem.Spec PyProof.Rows L2
def SqB (K : PySem.W.Frag) (t : Bool) (H : Hp) (a : Addr) (xs : List V) : Prop := match t with
  | true => SqT K H a xs
  | false => SqL K H a xs
theorem ex_sq {K : PySem.W.Frag} {t : Bool} {H H' : Hp} {a : Addr} {xs : List V} (e : Ex H H') (h : SqB K t H a xs) : SqB K t H' a xs := by
  cases t
  · exact ex_l e h
  · exact ex_t e h
theorem SqB.is {X : Cx} {pins : List (Addr × Obj)} {σ : L2.St} {H : Hp} {s : Shared} {t : Bool} {a : Addr} {xs : List V} (I : Inv X pins σ H s) (h : SqB X.K t H a xs) : ∃ its : List Value, Vals xs its ∧ sqH t s.heap a its.toArray := by
  cases t
  · obtain ⟨its, r, p, _⟩ := I.list h
    exact ⟨its, r, p.isList⟩
  · obtain ⟨its, r, p, _⟩ := I.tuple h
    exact ⟨its, r, p⟩
theorem SqB.inj {X : Cx} {pins : List (Addr × Obj)} {σ : L2.St} {H : Hp} {s : Shared} {t : Bool} {a : Addr} {xs ys : List V} (I : Inv X pins σ H s) (h : SqB X.K t H a xs) (h' : SqB X.K t H a ys) : xs = ys := by
  cases t
  · exact I.list_inj h h'
  · exact I.tuple_inj h h'
/-- the two as they stand at each turn, the items in new pairs -/
def ItzB (K : PySem.W.Frag) (t u : Bool) (a b : Addr) : It :=
  ⟨fun i H => ∃ (xs ys : List V) (x y : V), SqB K t H a xs ∧ SqB K u H b ys ∧ xs[i]? = some x ∧ ys[i]? = some y,
    fun i H v H' => ∃ T x y, v = .ref T ∧ H T = none ∧ H' = upd H T (.tup [x, y]) ∧ (∀ xs, SqB K t H a xs → xs[i]? = some x) ∧ ∀ ys, SqB K u H b ys → ys[i]? = some y,
    fun i H => ∃ xs ys : List V, SqB K t H a xs ∧ SqB K u H b ys ∧ (xs.length ≤ i ∨ ys.length ≤ i)⟩
theorem turn_zipB {P : Program} {w : World} {K : PySem.W.Frag} {elts : List Expr} {kk : Nat} {tpos : Pos} {t u : Bool} {a b z TI TO i1 i2 : Addr} (D : ZipApart z TI TO i1 i2 a b) :
    Turn P w K (.Tuple elts kk tpos) (ItzB K t u a b) [z, TI, TO, i1, i2] z (fun i h => ZSt t u h z TI TO i1 i2 a b i .none) where
  mem := by simp
  obj := fun i h st c hc => by
    obtain ⟨hz, hTI, ⟨x, y, hTO⟩, h1, h2⟩ := st
    obtain ⟨o1, e1, _, d1⟩ := sqI_iff.mp h1
    obtain ⟨o2, e2, _, d2⟩ := sqI_iff.mp h2
    have e' : c = z ∨ c = TI ∨ c = TO ∨ c = i1 ∨ c = i2 := by simpa using hc
    rcases e' with rfl | rfl | rfl | rfl | rfl
    · exact ⟨_, hz, fun v q => nomatch q⟩
    · exact ⟨_, hTI, fun v q => nomatch q⟩
    · exact ⟨_, hTO, fun v q => nomatch q⟩
    · exact ⟨o1, e1, fun v q => by rw [d1] at q; cases q⟩
    · exact ⟨o2, e2, fun v q => by rw [d2] at q; cases q⟩
  keep := fun i h h' st k => by
    obtain ⟨hz, hTI, ⟨x, y, hTO⟩, h1, h2⟩ := st
    exact ⟨k z (by simp) _ hz, k TI (by simp) _ hTI, ⟨x, y, k TO (by simp) _ hTO⟩, h1.at fun o q => k i1 (by simp) o q, h2.at fun o q => k i2 (by simp) o q⟩
  item := by
    intro X hP hw hK hc i pins s σ H E I hf st hg
    subst hP hw hK
    obtain ⟨xs, ys, x, y, hqx, hqy, hx, hy⟩ := hg
    obtain ⟨its, rv, p⟩ := hqx.is I
    obtain ⟨its2, rv2, p2⟩ := hqy.is I
    obtain ⟨v, hv, ru⟩ := rv.get hx
    obtain ⟨v2, hv2, ru2⟩ := rv2.get hy
    have lz : z < s.heap.objs.size := Heap.lt_size st.z
    have lTI : TI < s.heap.objs.size := Heap.lt_size st.TI
    have lTO : TO < s.heap.objs.size := by obtain ⟨_, _, q⟩ := st.TO; exact Heap.lt_size q
    have l1 := st.i1.lt
    have l2 := st.i2.lt
    refine mz_next D st p p2 (x := v) (y := v2) (by simpa using hv) (by simpa using hv2) fun h' st' hT hk => ?_
    refine ⟨_, rfl, wpAny_letOwnedTupleGo_zip (s := { s with heap := h' }) st'.z fun h'' z'' sb => ?_⟩
    have hT2 : h''.get? s.heap.objs.size = some { cls := .type "tuple", data := .seq #[v, v2] } := (sb.2 _ (Nat.ne_of_gt lz)).trans hT
    have new : ObjOk X.prog X.w (upd H s.heap.objs.size (.tup [x, y])) h'' s.heap.objs.size (.tup [x, y]) :=
      ⟨by show 2 ≤ sizeLine; decide, [v, v2], .cons ru (.cons ru2 .nil), ⟨_, hT2, rfl, _, rfl⟩⟩
    have I1 : Inv X pins σ (upd H s.heap.objs.size (.tup [x, y])) { s with heap := h'' } :=
      I.turnedNew (t' := s.toks) (ch := [z, TI, TO, i1, i2]) (fun c o hb q => (sb.2 c (fun q' => hb (by simp [q']))).trans (hk c o (fun q' => hb (by simp [q'])) (fun q' => hb (by simp [q'])) (fun q' => hb (by simp [q'])) (fun q' => hb (by simp [q'])) q)) hf (Nat.le_refl _) new
    obtain ⟨-, hTI, ⟨_, _, hTO⟩, h1', h2'⟩ := st'
    refine ⟨.ref s.heap.objs.size, _, I1, rfl, ⟨_, x, y, rfl, I.hok.fresh (Nat.le_refl _), rfl, fun l hl => by rw [hl.inj I hqx]; exact hx, fun l hl => by rw [hl.inj I hqy]; exact hy⟩, ⟨z'', (sb.2 _ D.TIz).trans hTI, ⟨_, _, (sb.2 _ D.TOz).trans hTO⟩, h1'.at fun o q => (sb.2 _ D.i1z).trans q, h2'.at fun o q => (sb.2 _ D.i2z).trans q⟩, fun c hcm => ?_⟩
    have hlt : c < s.heap.objs.size := by
      have e' : c = z ∨ c = TI ∨ c = TO ∨ c = i1 ∨ c = i2 := by simpa using hcm
      rcases e' with rfl | rfl | rfl | rfl | rfl <;> assumption
    rw [upd_ne (Nat.ne_of_lt hlt)]
    exact (hf c hcm).1
  done := by
    intro X hP hw hK hc i pins s σ H E I hf st hg
    subst hP hw hK
    obtain ⟨xs, ys, hqx, hqy, hend⟩ := hg
    obtain ⟨its, rv, p⟩ := hqx.is I
    obtain ⟨its2, rv2, p2⟩ := hqy.is I
    have l1 := rv.length
    have l2 := rv2.length
    have he : its.toArray[i]? = none ∨ its2.toArray[i]? = none := by
      rcases hend with q | q
      · exact .inl (by simp; omega)
      · exact .inr (by simp; omega)
    exact mz_stop (I.ok.hd hc) D st p p2 he fun h' hk => ⟨rfl, I.turnedL (t' := s.toks) (ch := [z, TI, TO, i1, i2]) (fun c o hb q =>
      hk c o (fun q' => hb (by simp [q'])) (fun q' => hb (by simp [q'])) (fun q' => hb (by simp [q'])) (fun q' => hb (by simp [q'])) q) hf⟩
  self := fun A i s Q E st h => wpAny_pyIter_zip st.z h
def iZipB (K : PySem.W.Frag) (ta : TA) : TI := fun σ H R => ta σ H fun vs H1 => ∃ t u a b xs ys, vs = [.ref a, .ref b] ∧ SqB K t H1 a xs ∧ SqB K u H1 b ys ∧ R (ItzB K t u a b) H1
theorem pi_zipB {X : Cx} {e e2 : Expr} {ta : TA} {p pos tpos : Pos} {elts : List Expr} {kk : Nat} (hg : Gl X "zip") (hm : X.mg "zip" = none) (ha : PA X [e, e2] ta)
    (hs : starEach [e, e2] X.env = (false, eval e X.env) :: starEach [e2] X.env := by rfl) (hpl : (backTo pos (starEach [e2] X.env)).any (·.1) = false := by rfl) :
    PI X (.Tuple elts kk tpos) (.Call (.Name "zip" p) [e, e2] [] pos) (iZipB X.K ta) := by
  refine ⟨fun pins s σ H R I h => ?_⟩
  refine Call_ (ld_blt I hg hm PyProof.Rows.boot_zip (PyProof.Rows.callWith_type1 (thn (ha.run pos pins s σ H _ I h) fun us s1 ⟨vs, H1, I1, r1, q1⟩ => ?_) hs hpl))
  obtain ⟨t, u, a, b, xs, ys, ex, hqx, hqy, q⟩ := q1
  subst ex
  cases r1 with
  | cons r rr =>
    cases rr with
    | cons r' rr =>
      cases rr
      cases r
      cases r'
      obtain ⟨its, rv, p1⟩ := hqx.is I1
      obtain ⟨its2, rv2, p2⟩ := hqy.is I1
      refine mz_call p1 p2 fun h' st hk => wpAny_pyIter_zip st.z ?_
      have I2 : Inv X pins σ H1 { s1 with heap := h' } := I1.kept (t' := s1.toks) hk
      refine ⟨s1.heap.objs.size + 4, [s1.heap.objs.size + 4, s1.heap.objs.size + 2, s1.heap.objs.size + 3, s1.heap.objs.size, s1.heap.objs.size + 1], _, _, H1, rfl, I2, turn_zipB (PySem.W.ktu_apart s1.heap.objs.size a b p1.lt p2.lt), st, fun c hcm => ?_, q⟩
      have hle : s1.heap.objs.size ≤ c := by
        have e' : c = s1.heap.objs.size + 4 ∨ c = s1.heap.objs.size + 2 ∨ c = s1.heap.objs.size + 3 ∨ c = s1.heap.objs.size ∨ c = s1.heap.objs.size + 1 := by simpa using hcm
        rcases e' with z | z | z | z | z <;> rw [z] <;> first | exact Nat.le_add_right _ _ | exact Nat.le_refl _
      exact I1.fpOk hle (I1.hok.fresh hle)
end
section
open PySem.Spec PyProof.Rows L2
variable {X : Cx} {W : WX} {K : PySem.W.Frag}
theorem yi_zipB {G : Hp} {t u : Bool} {p q : Addr} {xs ys : List V} {ds es : List D} (h1 : SqB K t G p xs) (r1 : RepL K G xs ds) (h2 : SqB K u G q ys) (r2 : RepL K G ys es) : YI K (ItzB K t u p q) G (List.zipWith (fun d e => D.tup [d, e]) ds es) where
  go := fun i d e F cs H s => by
    rw [List.getElem?_zipWith] at e
    cases e1 : ds[i]? with
    | none => rw [e1] at e; cases e
    | some x => cases e2 : es[i]? with
      | none => rw [e1, e2] at e; cases e
      | some y =>
        obtain ⟨v, a1, _⟩ := r1.get e1
        obtain ⟨v2, a2, _⟩ := r2.get e2
        exact ⟨xs, ys, v, v2, ex_sq (s.gr.trans pur_le) h1, ex_sq (s.gr.trans pur_le) h2, a1, a2⟩
  yld := fun i d e F cs H x H' s hy => by
    obtain ⟨T, v, v2, rfl, hT, rfl, k1, k2⟩ := hy
    rw [List.getElem?_zipWith] at e
    cases e1 : ds[i]? with
    | none => rw [e1] at e; cases e
    | some dx => cases e2 : es[i]? with
      | none => rw [e1, e2] at e; cases e
      | some dy =>
        rw [e1, e2] at e
        cases e
        obtain ⟨v', a1, b1⟩ := r1.get e1
        obtain ⟨u', a2, b2⟩ := r2.get e2
        have c1 := k1 xs (ex_sq (s.gr.trans pur_le) h1)
        have c2 := k2 ys (ex_sq (s.gr.trans pur_le) h2)
        rw [a1] at c1; rw [a2] at c2
        obtain rfl := Option.some.inj c1
        obtain rfl := Option.some.inj c2
        obtain ⟨s2, e3⟩ := s.new (o := .tup [_, _]) hT
        exact ⟨s2, .tup (SqT.of e3) (.cons (b1.mono (s.gr.trans s2.gr)) (.cons (b2.mono (s.gr.trans s2.gr)) .nil))⟩
  stop := fun F cs H s => by
    refine ⟨xs, ys, ex_sq (s.gr.trans pur_le) h1, ex_sq (s.gr.trans pur_le) h2, ?_⟩
    rw [List.length_zipWith, r1.length, r2.length]; omega
/-- the items of a list or a tuple -/
def itemsD : D → Option (List D)
  | .lst xs => some xs
  | .tup xs => some xs
  | _ => none
theorem rep_items {G : Hp} {v : V} {d : D} {xs : List D} (r : Rep K G v d) (e : itemsD d = some xs) : ∃ t a vs, v = .ref a ∧ SqB K t G a vs ∧ RepL K G vs xs := by
  cases d with
  | lst ys =>
    injection e with e; subst e
    cases r with
    | lst a b => exact ⟨false, _, _, rfl, a, b⟩
  | tup ys =>
    injection e with e; subst e
    cases r with
    | tup a b => exact ⟨true, _, _, rfl, a, b⟩
  | _ => cases e
def iZm (w : WA) : WI := fun ρ cs P Z => w ρ cs (fun ds cs1 => ∃ d e xs ys, ds = [d, e] ∧ itemsD d = some xs ∧ itemsD e = some ys ∧ P (List.zipWith (fun d e => D.tup [d, e]) xs ys) cs1) Z
theorem di_zipM {w : WA} {e e2 : Expr} {p pos tpos : Pos} {elts : List Expr} {kk : Nat} (hg : Gl X "zip") (hm : X.mg "zip" = none) (ha : DA X W [e, e2] w)
    (hs : starEach [e, e2] X.env = (false, eval e X.env) :: starEach [e2] X.env := by rfl) (hpl : (backTo pos (starEach [e2] X.env)).any (·.1) = false := by rfl) :
    DI X W (.Tuple elts kk tpos) (.Call (.Name "zip" p) [e, e2] [] pos) (iZm w) := PI.imp (pi_zipB hg hm ha hs hpl) fun σ H R hq => by
  obtain ⟨F, cs, ρ, P, Z, s, re, hw, pe, px⟩ := hq
  refine ⟨F, cs, ρ, _, Z, s, re, hw, fun H1 cs1 vs ds s1 r1 l1 h1 => ?_, px⟩
  obtain ⟨d, e, xs, ys, rfl, i1, i2, h⟩ := h1
  cases r1 with
  | cons r1 r2 =>
    cases r2 with
    | cons r2 r3 =>
      cases r3
      obtain ⟨t, a, us, rfl, q1, b1⟩ := rep_items r1 i1
      obtain ⟨u, b, us2, rfl, q2, b2⟩ := rep_items r2 i2
      exact ⟨t, u, _, _, _, _, rfl, ex_sq pur_le q1, ex_sq pur_le q2, pe H1 cs1 _ _ s1 (yi_zipB q1 b1 q2 b2) h⟩
theorem r_zipM {w : WA} {ρ : DL.Env} {cs : Cs} {P : List D → Cs → Prop} {Z : XZ} (h : w ρ cs (fun ds cs1 => ∃ d e xs ys, ds = [d, e] ∧ itemsD d = some xs ∧ itemsD e = some ys ∧ P (List.zipWith (fun d e => D.tup [d, e]) xs ys) cs1) Z) : iZm w ρ cs P Z := h
end
end DL
namespace DL
open PySem L2
def halfB (b : Bx) (ws : List Int) (p : Bool × Nat) (h : Bool) : Bx := if h then sndB b ws p.2 p.1 else fstB b ws p.2 p.1
def halfW (ws : List Int) (k : Nat) (h : Bool) : List Int := if h then ws.drop k else ws.take k
def bitD (h : Bool) : D := .int (if h then 1 else 0)
def spotD (p : Bool × Nat) : D := .tup [sideD p.1, .int (p.2 : Int)]
/-- a paper's pair: which half, and its paper -/
def PairOk (S : Bool → D → Prop) (x : D) : Prop := ∃ h e, x = .tup [bitD h, e] ∧ S h e
/-- the paper stands -/
def St (r : Rat) : Nat → Bx → List Int → D → Prop
  | 0, _, _, _ => False
  | n + 1, b, ws, d => (ws.length = 1 ∧ d = .tup [] ∧ r ≤ shapeR b.w b.h) ∨ (1 < ws.length ∧ ∃ xs, d = .tup xs ∧ xs.length = (spotL ws.length).length ∧ ∀ (i : Nat) (s : Bool × Nat) (x : D), (spotL ws.length)[i]? = some s → xs[i]? = some x → PairOk (fun h e => St r n (halfB b ws s h) (halfW ws s.2 h) e) x)
theorem spotL_len (n : Nat) : (spotL n).length = (n - 1) + (n - 1) := by
  unfold spotL
  rw [List.length_append, List.length_map, List.length_map, List.length_range]
theorem spot_at {n i j : Nat} {dn : Bool} (hd : sdN dn = i) (hj : j < n - 1) : (spotL n)[i * (n - 1) + j]? = some (dn, 1 + j) := by
  unfold spotL
  cases dn with
  | true =>
    have : i = 0 := hd.symm
    subst this
    rw [Nat.zero_mul, Nat.zero_add, List.getElem?_append_left (by rw [List.length_map, List.length_range]; exact hj), List.getElem?_map, List.getElem?_range hj, Nat.add_comm]
    rfl
  | false =>
    have : i = 1 := hd.symm
    subst this
    rw [Nat.one_mul, List.getElem?_append_right (by rw [List.length_map, List.length_range]; omega), List.length_map, List.length_range, Nat.add_sub_cancel_left, List.getElem?_map, List.getElem?_range hj, Nat.add_comm]
    rfl
theorem bit_inj {h k : Bool} (e : bitD h = bitD k) : h = k := by
  cases h <;> cases k <;> first | rfl | (injection e with e; exact absurd e (by decide))
theorem halfW_len {ws : List Int} {k : Nat} (h0 : 1 ≤ k) (h1 : k < ws.length) (h : Bool) : 1 ≤ (halfW ws k h).length ∧ (halfW ws k h).length < ws.length := by
  cases h
  · show 1 ≤ (ws.take k).length ∧ (ws.take k).length < ws.length
    rw [List.length_take]; omega
  · show 1 ≤ (ws.drop k).length ∧ (ws.drop k).length < ws.length
    rw [List.length_drop]; omega
theorem St_tup {r : Rat} {n : Nat} {b : Bx} {ws : List Int} {d : D} (h : St r n b ws d) : ∃ xs, d = .tup xs := by
  cases n with
  | zero => exact h.elim
  | succ n =>
    rcases h with ⟨_, e, _⟩ | ⟨_, xs, e, _⟩
    · exact ⟨_, e⟩
    · exact ⟨xs, e⟩
open Classical in
noncomputable def stB (r : Rat) (n : Nat) (b : Bx) (ws : List Int) (d : D) : Bool := decide (St r n b ws d)
theorem stB_iff {r : Rat} {n : Nat} {b : Bx} {ws : List Int} {d : D} : stB r n b ws d = true ↔ St r n b ws d := by unfold stB; simp only [decide_eq_true_eq]
theorem stB_no {r : Rat} {n : Nat} {b : Bx} {ws : List Int} {d : D} (h : ¬ St r n b ws d) : stB r n b ws d = false := Bool.eq_false_iff.mpr fun z => h (stB_iff.mp z)
/-- so far the pairs stand -/
def Up (r : Rat) (n : Nat) (b : Bx) (ws : List Int) (m : Nat) (xs : List D) : Prop := ∀ (i : Nat) (s : Bool × Nat) (x : D), i < m → (spotL ws.length)[i]? = some s → xs[i]? = some x → PairOk (fun h e => St r n (halfB b ws s h) (halfW ws s.2 h) e) x
theorem up_zero {r : Rat} {n : Nat} {b : Bx} {ws : List Int} {xs : List D} : Up r n b ws 0 xs := fun i s x h => absurd h (Nat.not_lt_zero _)
theorem up_step {r : Rat} {n : Nat} {b : Bx} {ws : List Int} {m : Nat} {xs : List D} {s : Bool × Nat} {x : D} (h : Up r n b ws m xs) (hs : (spotL ws.length)[m]? = some s) (hx : xs[m]? = some x) (hp : PairOk (fun h e => St r n (halfB b ws s h) (halfW ws s.2 h) e) x) : Up r n b ws (m + 1) xs := fun i s' x' hi h1 h2 => by
  by_cases e : i = m
  · subst e
    rw [hs] at h1; rw [hx] at h2
    cases h1; cases h2
    exact hp
  · exact h i s' x' (by omega) h1 h2
theorem up_snoc {r : Rat} {n : Nat} {b : Bx} {ws : List Int} {m : Nat} {xs : List D} {s : Bool × Nat} {x : D} (hl : xs.length = m) (h : Up r n b ws m xs) (hs : (spotL ws.length)[m]? = some s) (hp : PairOk (fun h e => St r n (halfB b ws s h) (halfW ws s.2 h) e) x) : Up r n b ws (m + 1) (xs ++ [x]) := by
  refine up_step (m := m) (fun i s' x' hi h1 h2 => h i s' x' hi h1 ?_) hs ?_ hp
  · rwa [List.getElem?_append_left (by omega)] at h2
  · rw [List.getElem?_append_right (by omega), hl, Nat.sub_self]; rfl
theorem up_end {r : Rat} {n : Nat} {b : Bx} {ws : List Int} {m : Nat} {xs : List D} (h1 : 1 < ws.length) (hl : xs.length = (spotL ws.length).length) (hm : (spotL ws.length).length ≤ m) (h : Up r n b ws m xs) : St r (n + 1) b ws (.tup xs) :=
  .inr ⟨h1, xs, rfl, hl, fun i s x a c => h i s x (Nat.lt_of_lt_of_le (List.getElem?_eq_some_iff.mp a).1 hm) a c⟩
theorem st_one {r : Rat} {n : Nat} {b : Bx} {ws : List Int} {d : D} (h : ws.length = 1) : St r (n + 1) b ws d ↔ d = .tup [] ∧ r ≤ shapeR b.w b.h := by
  constructor
  · rintro (⟨_, a, c⟩ | ⟨a, _⟩)
    · exact ⟨a, c⟩
    · omega
  · rintro ⟨a, c⟩
    exact .inl ⟨h, a, c⟩
theorem st_many {r : Rat} {n : Nat} {b : Bx} {ws : List Int} {d : D} (h : 1 < ws.length) (hs : St r (n + 1) b ws d) : ∃ xs, d = .tup xs ∧ xs.length = (spotL ws.length).length ∧ ∀ (i : Nat) (s : Bool × Nat) (x : D), (spotL ws.length)[i]? = some s → xs[i]? = some x → PairOk (fun h e => St r n (halfB b ws s h) (halfW ws s.2 h) e) x := by
  rcases hs with ⟨a, _⟩ | ⟨_, q⟩
  · omega
  · exact q
theorem any_bits (i : Int) : ([D.int 0, D.int 1].any fun z => eqD z (.int i)) = true ↔ ∃ h, D.int i = bitD h := by
  simp only [List.any_cons, List.any_nil, Bool.or_false, Bool.or_eq_true, eqD, beq_iff_eq]
  constructor
  · rintro (h | h)
    · exact ⟨false, by rw [← h]; rfl⟩
    · exact ⟨true, by rw [← h]; rfl⟩
  · rintro ⟨h, e⟩
    cases h
    · injection e with e; exact .inl e.symm
    · injection e with e; exact .inr e.symm
theorem r_ninBits {i : Int} {cs : Cs} {P : DP} (ht : ∀ h, D.int i = bitD h → P (.bl false) cs) (hf : (∀ h, D.int i ≠ bitD h) → P (.bl true) cs) : oNotInQ (.int i) (.tup [.int 0, .int 1]) cs P := by
  refine r_notinQ rfl rfl ?_
  by_cases e : ∃ h, D.int i = bitD h
  · rw [(any_bits i).mpr e]; exact ht _ e.choose_spec
  · rw [show ([D.int 0, D.int 1].any fun z => eqD z (.int i)) = false from Bool.eq_false_iff.mpr fun z => e ((any_bits i).mp z)]; exact hf fun h q => e ⟨h, q⟩
theorem spots_flat (n : Nat) : ([true, false].flatMap fun dn => (List.range (n - 1)).map fun i => D.tup [sideD dn, .int ((1 + i : Nat) : Int)]) = (spotL n).map spotD := by
  unfold spotL
  rw [List.map_append, List.map_map, List.map_map]
  show _ ++ (_ ++ []) = _
  rw [List.append_nil]
  congr 1 <;> exact List.map_congr_left fun i _ => by show _ = D.tup [_, .int ((i + 1 : Nat) : Int)]; rw [Nat.add_comm]
theorem len_two {xs : List D} (h : xs.length = 2) : ∃ a b, xs = [a, b] := by
  match xs, h with
  | [a, b], _ => exact ⟨a, b, rfl⟩
theorem twoW_half {b : Bx} {ws : List Int} {p : Bool × Nat} (h : Bool) (hw : WtOk ws) (h0 : 1 ≤ p.2) (h1 : p.2 < ws.length) : WtOk (halfW ws p.2 h) := by
  cases h
  · exact hw.take h0 h1
  · exact hw.drop h1
theorem half_pos {b : Bx} {ws : List Int} {p : Bool × Nat} (h : Bool) (hp : b.Pos) (hw : WtOk ws) (h0 : 1 ≤ p.2) (h1 : p.2 < ws.length) : (halfB b ws p h).Pos := by
  cases h
  · exact fst_pos hp hw h0 h1 p.1
  · exact snd_pos hp hw h0 h1 p.1
theorem half_lv {b : Bx} {ws : List Int} {p : Bool × Nat} {j : Nat} (h : Bool) (hv : b.Lv j) (hj : j ≤ 4) (hw : WtOk ws) (h0 : 1 ≤ p.2) (h1 : p.2 < ws.length) : (halfB b ws p h).Lv (j + 1) := by
  cases h
  · exact fst_lv hv hj hw h0 h1 p.1
  · exact snd_lv hv hj hw h0 h1 p.1
mutual
theorem plD_kn : ∀ (d : D) {n : Nat}, plD n d = true → knD d = true
  | .non, _, _ => rfl
  | .bl _, _, _ => rfl
  | .int _, _, _ => rfl
  | .str _, _, _ => rfl
  | .tup xs, 0, h => by simp [plD] at h
  | .lst xs, 0, h => by simp [plD] at h
  | .tup xs, n + 1, h => plL_kn xs (plD_t h)
  | .lst xs, n + 1, h => plL_kn xs (plD_l h)
  | .dic _, n, h => by cases n <;> simp [plD] at h
  | .dct _, n, h => by cases n <;> simp [plD] at h
  | .ins _ _, n, h => by cases n <;> simp [plD] at h
  | .xcp _ _ _ _, n, h => by cases n <;> simp [plD] at h
  | .opq _, n, h => by cases n <;> simp [plD] at h
theorem plL_kn : ∀ (d : List D) {n : Nat}, plL n d = true → knL d = true
  | [], _, _ => rfl
  | d :: ds, n, h => by
    simp only [plL, Bool.and_eq_true] at h
    simp only [knL, Bool.and_eq_true]
    exact ⟨plD_kn d h.1, plL_kn ds h.2⟩
end
theorem zip_spots (n : Nat) (xs : List D) : List.zipWith (fun d e => D.tup [d, e]) ((spotL n).map spotD) xs = ((spotL n).zip xs).map fun p => .tup [spotD p.1, p.2] := by
  rw [List.zip, List.map_zipWith, List.zipWith_map_left]
theorem st_not_len {r : Rat} {n : Nat} {b : Bx} {ws : List Int} {xs : List D} (h : 1 < ws.length) (hl : xs.length ≠ (spotL ws.length).length) : stB r (n + 1) b ws (.tup xs) = false := stB_no fun z => by
  obtain ⟨ys, e, hy, _⟩ := st_many h z
  injection e with e
  rw [← e] at hy
  exact hl hy
theorem st_not_tup {r : Rat} {n : Nat} {b : Bx} {ws : List Int} {d : D} (h : ∀ xs, d ≠ .tup xs) : stB r n b ws d = false := stB_no fun z => by
  obtain ⟨xs, e⟩ := St_tup z
  exact h xs e
theorem st_not_at {r : Rat} {n : Nat} {b : Bx} {ws : List Int} {xs : List D} {i : Nat} {s : Bool × Nat} {x : D} (h : 1 < ws.length) (hs : (spotL ws.length)[i]? = some s) (hx : xs[i]? = some x) (hp : ¬ PairOk (fun h e => St r n (halfB b ws s h) (halfW ws s.2 h) e) x) : stB r (n + 1) b ws (.tup xs) = false := stB_no fun z => by
  obtain ⟨ys, e, _, hy⟩ := st_many h z
  injection e with e
  subst e
  exact hp (hy i s x hs hx)
mutual
def lnD (L : Nat) : D → Bool
  | .tup xs => decide (xs.length ≤ L) && lnL L xs
  | .lst xs => decide (xs.length ≤ L) && lnL L xs
  | _ => true
def lnL (L : Nat) : List D → Bool
  | [] => true
  | d :: ds => lnD L d && lnL L ds
end
theorem lnL_iff {L : Nat} : ∀ {xs : List D}, lnL L xs = true ↔ ∀ x ∈ xs, lnD L x = true
  | [] => ⟨fun _ _ h => (nomatch h), fun _ => rfl⟩
  | d :: ds => by
    simp only [lnL, Bool.and_eq_true, List.mem_cons, forall_eq_or_imp, lnL_iff (xs := ds)]
mutual
theorem lnD_mono {L M : Nat} (h : L ≤ M) : ∀ (d : D), lnD L d = true → lnD M d = true
  | .tup xs, q => by
    simp only [lnD, Bool.and_eq_true, decide_eq_true_eq] at q ⊢
    exact ⟨by omega, lnL_mono h xs q.2⟩
  | .lst xs, q => by
    simp only [lnD, Bool.and_eq_true, decide_eq_true_eq] at q ⊢
    exact ⟨by omega, lnL_mono h xs q.2⟩
  | .non, _ => rfl
  | .bl _, _ => rfl
  | .int _, _ => rfl
  | .str _, _ => rfl
  | .dic _, _ => rfl
  | .dct _, _ => rfl
  | .ins _ _, _ => rfl
  | .xcp _ _ _ _, _ => rfl
  | .opq _, _ => rfl
theorem lnL_mono {L M : Nat} (h : L ≤ M) : ∀ (d : List D), lnL L d = true → lnL M d = true
  | [], _ => rfl
  | d :: ds, q => by
    simp only [lnL, Bool.and_eq_true] at q ⊢
    exact ⟨lnD_mono h d q.1, lnL_mono h ds q.2⟩
end
/-- such data: so deep, so wide -/
structure Fw (N L : Nat) (d : D) : Prop where
  p : plD N d = true
  l : lnD L d = true
theorem Fw.tup {N L : Nat} {xs : List D} (h : Fw (N + 1) L (.tup xs)) : xs.length ≤ L ∧ ∀ x ∈ xs, Fw N L x := by
  have l := h.l
  simp only [lnD, Bool.and_eq_true, decide_eq_true_eq] at l
  exact ⟨l.1, fun x hx => ⟨plL_mem (plD_t h.p) hx, lnL_iff.mp l.2 x hx⟩⟩
theorem Fw.mk_tup {N L : Nat} {xs : List D} (hL : L ≤ 100000) (hl : xs.length ≤ L) (h : ∀ x ∈ xs, Fw N L x) : Fw (N + 1) L (.tup xs) := by
  refine ⟨plD_tI (plL_of fun x hx => (h x hx).p) (by omega), ?_⟩
  simp only [lnD, Bool.and_eq_true, decide_eq_true_eq]
  exact ⟨hl, lnL_iff.mpr fun x hx => (h x hx).l⟩
theorem Fw.mono {N L M : Nat} {d : D} (h : Fw N L d) (hL : L ≤ M) : Fw N M d := ⟨h.p, lnD_mono hL d h.l⟩
theorem fw_dec {N L : Nat} {d : D} (h : plD 3 d = true) (h2 : lnD 3 d = true) (hN : 3 ≤ N) (hL : 3 ≤ L) : Fw N L d := ⟨plD_mono d h hN, lnD_mono hL d h2⟩
end DL
namespace DL
open PySem L2
end DL
namespace DL
open PySem PySem.Spec PyProof.Rows L2
section
variable {X : Cx} {W : WX} {e : Expr} {we : DL.WE} {K : PySem.W.Frag}
def oRevL : D → Cs → DP → Prop := fun x cs P => ∃ xs, x = .lst xs ∧ P (.lst xs.reverse) cs
def wRevL (we : DL.WE) : DL.WE := fun ρ cs P Z => we ρ cs (fun x cs1 => oRevL x cs1 P) Z
theorem r_revL {ρ : DL.Env} {cs : Cs} {P : DP} {Z : XZ} (h : we ρ cs (fun x cs1 => oRevL x cs1 P) Z) : wRevL we ρ cs P Z := h
theorem r_revLL {xs : List D} {cs : Cs} {P : DP} (h : P (.lst xs.reverse) cs) : oRevL (.lst xs) cs P := ⟨xs, rfl, h⟩
end
end DL
namespace DL
open PySem PySem.Spec PyProof.Rows L2
/-- the first word that is due -/
def andW (a b : Str) : Str := if a = "" then b else a
theorem andW_nil {a b : Str} (h : andW a b = "") : a = "" ∧ b = "" := by
  unfold andW at h
  split at h
  · exact ⟨by assumption, h⟩
  · exact absurd h (by assumption)
theorem andW_r {b : Str} : andW "" b = b := if_pos rfl
theorem andW_e {a b : Str} (h : a = "") : andW a b = b := if_pos h
theorem andW_l {a b : Str} (h : a ≠ "") : andW a b = a := if_neg h
def badW (k : Bool) (n : Str) : Str := if k then "" else n
theorem badW_t {k : Bool} {n : Str} (h : k = true) : badW k n = "" := by rw [h]; rfl
theorem badW_f {k : Bool} {n : Str} (h : k = false) : badW k n = n := by rw [h]; rfl
theorem badW_nil {k : Bool} {n : Str} (hn : n ≠ "") (h : badW k n = "") : k = true := by
  cases k with
  | true => rfl
  | false => exact absurd h hn
/-- what is asked of a check -/
structure Due (y : Str) (P : Prop) (Q : Str → Prop) : Prop where
  ok : y = "" → P
  no : y ≠ "" → Q y
theorem Due.of {y : Str} {P : Prop} {Q : Str → Prop} (e : y = "") (h : P) : Due y P Q := ⟨fun _ => h, fun z => absurd e z⟩
def whyBox (d : D) : Str := badW (boxD d) "BadBox"
def whyWt (d : D) : Str := badW (weightsD d) "BadWeight"
theorem boxD_inv {d : D} (h : boxD d = true) : ∃ b : Bx, d = b.d ∧ b.Pos := by
  unfold boxD at h
  split at h
  · simp only [Bool.and_eq_true] at h
    obtain ⟨h1, h2, h3, h4, h5, h6⟩ := h
    obtain ⟨l, rfl⟩ := partD_inv h1
    obtain ⟨t, rfl⟩ := partD_inv h2
    obtain ⟨w, rfl⟩ := partD_inv h3
    obtain ⟨k, rfl⟩ := partD_inv h4
    rw [posD_dR] at h5 h6
    exact ⟨⟨l, t, w, k⟩, rfl, ⟨of_decide_eq_true h5, of_decide_eq_true h6⟩⟩
  · cases h
theorem wts_inv : ∀ {xs : List D}, xs.all wOkD = true → ∃ ws : List Int, xs = ws.map D.int ∧ ∀ w ∈ ws, 1 ≤ w ∧ w ≤ 400000
  | [], _ => ⟨[], rfl, fun _ h => (nomatch h)⟩
  | x :: xs, h => by
    simp only [List.all_cons, Bool.and_eq_true] at h
    obtain ⟨ws, rfl, hw⟩ := wts_inv h.2
    have h1 := h.1
    unfold wOkD at h1
    split at h1
    · rename_i i
      simp only [Bool.and_eq_true, decide_eq_true_eq] at h1
      exact ⟨i :: ws, rfl, fun w hm => by
        rcases List.mem_cons.mp hm with rfl | hm
        · exact h1
        · exact hw w hm⟩
    · cases h1
theorem weightsD_inv {d : D} (h : weightsD d = true) : ∃ ws : List Int, WD d ws ∧ WtOk ws := by
  unfold weightsD at h
  split at h
  all_goals first
    | cases h
    | (unfold wtsL at h
       simp only [Bool.and_eq_true, decide_eq_true_eq] at h
       obtain ⟨⟨h1, h2⟩, h3⟩ := h
       obtain ⟨ws, rfl, hw⟩ := wts_inv h3
       rw [List.length_map] at h1 h2
       exact ⟨ws, by first | exact .inl rfl | exact .inr rfl, ⟨h1, h2, hw⟩⟩)
theorem wtD_wd {w : D} {ws : List Int} (hwd : WD w ws) (hw : WtOk ws) : weightsD w = true := by
  rcases hwd with rfl | rfl <;> exact wtsL_ok hw
def boundB : D → Bool
  | .tup [.int a, .int b] => partD (.tup [.int a, .int b]) && decide (b ≤ a)
  | _ => false
def whyBound (d : D) : Str := badW (boundB d) "BadBound"
theorem boundB_dR (r : Rat) : boundB (dR r) = decide (1 ≤ r) := by
  show (partD (dR r) && decide ((r.den : Int) ≤ r.num)) = _
  rw [partD_dR, Bool.true_and]
  refine decide_eq_decide.mpr ?_
  rw [Rat.le_iff]
  simp
theorem boundB_no {d : D} (h : partD d = false) : boundB d = false := by
  unfold boundB
  split
  · rw [h]; rfl
  · rfl
def lenI : D → Int
  | .lst xs => xs.length
  | .tup xs => xs.length
  | _ => 0
theorem lenI_wd {w : D} {ws : List Int} (h : WD w ws) : lenI w = ws.length := by
  rcases h with rfl | rfl <;> (show ((ws.map D.int).length : Int) = _; rw [List.length_map])
def whyFew (b w : D) (m : Int) : Str := andW (whyBox b) (andW (whyWt w) (badW (decide (lenI w ≤ m)) "BadSizes"))
theorem whyFew_ok {b w : D} {m : Int} (h : whyFew b w m = "") : (∃ bx : Bx, b = bx.d ∧ bx.Pos) ∧ (∃ ws : List Int, WD w ws ∧ WtOk ws) ∧ lenI w ≤ m := by
  obtain ⟨h1, h2⟩ := andW_nil h
  obtain ⟨h2, h3⟩ := andW_nil h2
  exact ⟨boxD_inv (badW_nil (by decide) h1), weightsD_inv (badW_nil (by decide) h2), of_decide_eq_true (badW_nil (by decide) h3)⟩
theorem whyFew_good {b : Bx} {ws : List Int} {m : Int} {wd : D} (hwd : WD wd ws) (hp : b.Pos) (hw : WtOk ws) (hl : (ws.length : Int) ≤ m) : whyFew b.d wd m = "" := by
  unfold whyFew whyBox whyWt
  rw [badW_t (boxD_Bx hp), badW_t (wtD_wd hwd hw), lenI_wd hwd, badW_t (decide_eq_true hl)]; rfl
def TreeOk (d : D) (n : Nat) : Prop := ∃ t : Tr, d = t.d ∧ t.n = n
open Classical in
noncomputable def treeOk (d : D) (n : Nat) : Bool := decide (TreeOk d n)
theorem treeOk_t {d : D} {n : Nat} (h : TreeOk d n) : treeOk d n = true := by unfold treeOk; exact @decide_eq_true _ (Classical.propDecidable _) h
theorem treeOk_f {d : D} {n : Nat} (h : ¬ TreeOk d n) : treeOk d n = false := by unfold treeOk; exact @decide_eq_false _ (Classical.propDecidable _) h
noncomputable def whyTree (d : D) (n : Int) : Str := badW (treeOk d n.toNat) "BadSizes"
end DL
namespace DL
open PySem PySem.Spec PyProof.Rows L2
section
variable {X : Cx} {W : WX} {K : PySem.W.Frag} {σ : L2.St} {H : Hp} {a b e tg : Expr} {es : List Expr} {wa wb we wo : DL.WE} {w : WA} {pos apos cpos : Pos}
/-- one sign -/
abbrev sgn (c : Nat) : D := .str ⟨#[c]⟩
def oCatS : DO2 := fun x y cs P => match x, y with
  | .str i, .str j => i.length + j.length ≤ 100000 ∧ P (.str (i ++ j)) cs
  | _, _ => False
def oInS : DO2 := fun x y cs P => match y with
  | .str z => ∃ c, x = sgn c ∧ P (.bl (decide (c ∈ z.cps.toList))) cs
  | _ => False
def iStrD (we : DL.WE) : WI := fun ρ cs P Z => we ρ cs (fun d cs1 => match d with
  | .str z => P (z.cps.toList.map sgn) cs1
  | _ => False) Z
/-- x.m(y), x a text -/
def wM1 (o : DO2) (wo we : DL.WE) : DL.WE := fun ρ cs P Z => wo ρ cs (fun x cs1 => (∃ z, x = .str z) ∧ we ρ cs1 (fun y cs2 => o x y cs2 P) Z) Z
def wFmt (we : DL.WE) : DL.WE := fun ρ cs P Z => we ρ cs (fun x cs1 => match x with
  | .str y => y.length ≤ 100000 ∧ P (.str y) cs1
  | .int i => i.natAbs.log2 < 1920 ∧ P (.str (toString i : String)) cs1
  | _ => False) Z
def wJs : List DL.WE → Str → Env → Cs → (Str → Cs → Prop) → XZ → Prop
  | [], acc, _, cs, Q, _ => Q acc cs
  | we :: ws, acc, ρ, cs, Q, Z => we ρ cs (fun x cs1 => match x with
    | .str y => (acc ++ y).length ≤ 100000 ∧ wJs ws (acc ++ y) ρ cs1 Q Z
    | _ => False) Z
def wJoined (ws : List DL.WE) : DL.WE := fun ρ cs P Z => wJs ws Str.empty ρ cs (fun y cs1 => P (.str y) cs1) Z
end
section
variable {ρ : DL.Env} {cs : Cs} {P : DP} {Z : XZ} {we wo : DL.WE} {z t : Str}
theorem r_catS (hz : z.length + t.length ≤ 100000) (h : P (.str (z ++ t)) cs) : oCatS (.str z) (.str t) cs P := ⟨hz, h⟩
theorem r_inS {c : Nat} (h : P (.bl (decide (c ∈ z.cps.toList))) cs) : oInS (sgn c) (.str z) cs P := ⟨c, rfl, h⟩
theorem r_strI {R : List D → Cs → Prop} (h : we ρ cs (fun d cs1 => match d with | .str z => R (z.cps.toList.map sgn) cs1 | _ => False) Z) : iStrD we ρ cs R Z := h
theorem r_m1 {o : DO2} (h : wo ρ cs (fun x cs1 => (∃ z, x = .str z) ∧ we ρ cs1 (fun y cs2 => o x y cs2 P) Z) Z) : wM1 o wo we ρ cs P Z := h
theorem r_isStr {R : Prop} (h : R) : (∃ z', D.str z = .str z') ∧ R := ⟨⟨_, rfl⟩, h⟩
theorem r_fmt (h : we ρ cs (fun x cs1 => match x with
  | .str y => y.length ≤ 100000 ∧ P (.str y) cs1
  | .int i => i.natAbs.log2 < 1920 ∧ P (.str (toString i : String)) cs1
  | _ => False) Z) : wFmt we ρ cs P Z := h
theorem r_joined {ws : List DL.WE} (h : wJs ws Str.empty ρ cs (fun y cs1 => P (.str y) cs1) Z) : wJoined ws ρ cs P Z := h
theorem r_jsC {ws : List DL.WE} {acc : Str} {Q : Str → Cs → Prop} (h : we ρ cs (fun x cs1 => match x with
    | .str y => (acc ++ y).length ≤ 100000 ∧ wJs ws (acc ++ y) ρ cs1 Q Z
    | _ => False) Z) : wJs (we :: ws) acc ρ cs Q Z := h
theorem r_jsN {acc : Str} {Q : Str → Cs → Prop} (h : Q acc cs) : wJs [] acc ρ cs Q Z := h
end
end DL
namespace DL
open PySem
open PySem.Sem (wp)
/-- a zip of two lists after i turns, its pairs kept by others -/
structure ZlSt (h : Heap) (z TI TO i1 i2 l1 l2 S : Addr) (xs ys : Array Value) (i : Nat) : Prop where
  pTI : IsPair h TI (.ref i1) (.ref i2)
  p1 : h.IsListIter i1 l1 i
  p2 : h.IsListIter i2 l2 i
  q1 : h.IsList l1 xs
  q2 : h.IsList l2 ys
  pz : (IsZip h z TI TO .none ∧ ∃ a b, IsPair h TO a b) ∨ ∃ T f oT, IsZipHeld h z TI TO T f ∧ h.get? T = some oT ∧ T ≠ z ∧ T ≠ i1 ∧ T ≠ i2 ∧ T ≠ S
/-- the pairs' places, one behind the other -/
structure ZlG (xs ys : Array Value) (lo : Addr) (h : Heap) (as : List Addr) : Prop where
  rise : as.Pairwise (· < ·)
  above : ∀ a ∈ as, lo < a
  pairs : ∀ (j : Nat) (a : Addr), as[j]? = some a → ∃ x y, xs[j]? = some x ∧ ys[j]? = some y ∧ IsPair h a x y
theorem ZlG.there {xs ys : Array Value} {lo : Addr} {h : Heap} {as : List Addr} (g : ZlG xs ys lo h as) {a : Addr} (ha : a ∈ as) : a < h.objs.size := by
  obtain ⟨j, hj⟩ := List.mem_iff_getElem?.mp ha
  obtain ⟨_, _, _, _, e⟩ := g.pairs j a hj
  exact Heap.lt_size e
section
variable {prog : Program} {w : World} {A : Around} {E : Value → Shared → Prop} {s : Shared} {z TI TO i1 i2 l1 l2 S : Addr} {xs ys : Array Value} {i : Nat}
theorem ZlSt.keep {h h' : Heap} (st : ZlSt h z TI TO i1 i2 l1 l2 S xs ys i) (hk : ∀ b o, b ≠ S → h.get? b = some o → h'.get? b = some o) (hS : ∀ c ∈ [z, TI, TO, i1, i2, l1, l2], S ≠ c) : ZlSt h' z TI TO i1 i2 l1 l2 S xs ys i := by
  obtain ⟨hTI, h1, h2, hl1, hl2, hz⟩ := st
  refine ⟨hk _ _ (hS TI (by simp)).symm hTI, h1.at fun o e => hk _ o (hS i1 (by simp)).symm e, h2.at fun o e => hk _ o (hS i2 (by simp)).symm e, hl1.at fun o e => hk _ o (hS l1 (by simp)).symm e, hl2.at fun o e => hk _ o (hS l2 (by simp)).symm e, ?_⟩
  rcases hz with ⟨hz, a, b, hTO⟩ | ⟨T, f, oT, hz, hT, r1, r2, r3, r4⟩
  · exact .inl ⟨hk _ _ (hS z (by simp)).symm hz, a, b, hk _ _ (hS TO (by simp)).symm hTO⟩
  · exact .inr ⟨T, f, oT, hk _ _ (hS z (by simp)).symm hz, hk _ _ r4 hT, r1, r2, r3, r4⟩
end
section
open PySem.Spec PyProof.Rows L2
variable {X : Cx} {W : WX} {K : PySem.W.Frag} {F G0 H H' : Hp} {cs : Cs}
theorem Sta.ext (s : Sta K F G0 cs H) (e : Ex H H') : Sta K F G0 cs H' ∧ Ex (pur F cs H) (pur F cs H') := by
  have g : Ex (pur F cs H) (pur F cs H') := fun b u q => by
    obtain ⟨e1, e2, e3⟩ := pur_of q
    rw [pur_at e2 e3]
    exact e b u e1
  refine ⟨⟨s.fr.trans e, s.gr.trans g, s.nd, s.ap, fun a m hm => ?_, s.ft⟩, g⟩
  obtain ⟨o, ho, r⟩ := s.ow a m hm
  exact ⟨o, e _ _ ho, r.mono g⟩
/-- list(zip(xs, ys)) -/
def wLstZ (w : WA) : DL.WE := fun ρ cs P Z => w ρ cs (fun ds cs1 => ∃ xs ys, ds = [.lst xs, .lst ys] ∧ P (.lst (List.zipWith (fun d e => D.tup [d, e]) xs ys)) cs1) Z
theorem r_lstZ {w : WA} {ρ : DL.Env} {P : DP} {Z : XZ} (h : w ρ cs (fun ds cs1 => ∃ xs ys, ds = [.lst xs, .lst ys] ∧ P (.lst (List.zipWith (fun d e => D.tup [d, e]) xs ys)) cs1) Z) : wLstZ w ρ cs P Z := h
end
end DL
namespace DL
open PySem PySem.Spec PyProof.Rows L2
end DL
namespace DL
open PySem PySem.Spec PyProof.Rows L2
section
variable {α : Type} [DecidableEq α]
/-- a way from a to b behind a -/
def Wk (N : α → List α) : α → List α → α → Prop
  | a, [], b => a = b
  | a, x :: r, b => x ∈ N a ∧ Wk N x r b
variable {N : α → List α}
theorem Wk.app : ∀ {a b c : α} {r s : List α}, Wk N a r b → Wk N b s c → Wk N a (r ++ s) c
  | _, _, _, [], _, h, k => by cases h; exact k
  | _, _, _, x :: r, s, ⟨h1, h2⟩, k => ⟨h1, h2.app k⟩
theorem Wk.snoc {a b c : α} {r : List α} (h : Wk N a r b) (k : c ∈ N b) : Wk N a (r ++ [c]) c := h.app ⟨k, rfl⟩
/-- the way back -/
theorem Wk.back (sy : ∀ x y, y ∈ N x → x ∈ N y) : ∀ {a b : α} {r : List α}, Wk N a r b → ∃ s, s.length = r.length ∧ Wk N b s a
  | _, _, [], h => ⟨[], rfl, h.symm⟩
  | a, b, x :: r, ⟨h1, h2⟩ => by
    obtain ⟨s, e, w⟩ := h2.back sy
    exact ⟨s ++ [a], by rw [List.length_append, e]; rfl, w.snoc (sy _ _ h1)⟩
/-- k is the least length of a way -/
structure Dst (N : α → List α) (a b : α) (k : Nat) : Prop where
  way : ∃ r, r.length = k ∧ Wk N a r b
  min : ∀ r, Wk N a r b → k ≤ r.length
theorem Dst.uniq {a b : α} {k l : Nat} (h : Dst N a b k) (g : Dst N a b l) : k = l := by
  obtain ⟨r, e1, w1⟩ := h.way
  obtain ⟨s, e2, w2⟩ := g.way
  have := h.min s w2
  have := g.min r w1
  omega
theorem Dst.symm (sy : ∀ x y, y ∈ N x → x ∈ N y) {a b : α} {k : Nat} (h : Dst N a b k) : Dst N b a k := by
  obtain ⟨r, e1, w1⟩ := h.way
  obtain ⟨s, e, w⟩ := w1.back sy
  refine ⟨⟨s, by omega, w⟩, fun t wt => ?_⟩
  obtain ⟨u, eu, wu⟩ := wt.back sy
  have := h.min u wu
  omega
/-- the widening: st what has steps, q what waits -/
structure Bfs (N : α → List α) (t : α) (st : List (α × Nat)) (q : List α) : Prop where
  nd : (st.map (·.1)).Nodup
  qn : q.Nodup
  t0 : (t, 0) ∈ st
  way : ∀ v k, (v, k) ∈ st → ∃ r, r.length = k ∧ Wk N v r t
  wait : ∀ v ∈ q, v ∈ st.map (·.1)
  done : ∀ v k, (v, k) ∈ st → v ∉ q → ∀ y ∈ N v, ∃ l, (y, l) ∈ st ∧ l ≤ k + 1
  rise : q.Pairwise fun a b => ∀ k l, (a, k) ∈ st → (b, l) ∈ st → k ≤ l
  top : ∀ a r, q = a :: r → ∀ k, (a, k) ∈ st → ∀ v l, (v, l) ∈ st → l ≤ k + 1
theorem uniq_of_nd {st : List (α × Nat)} (nd : (st.map (·.1)).Nodup) {v : α} {k l : Nat} (h : (v, k) ∈ st) (g : (v, l) ∈ st) : k = l := by
  induction st with
  | nil => cases h
  | cons p st ih =>
    rw [List.map_cons, List.nodup_cons] at nd
    rcases List.mem_cons.mp h with e | e <;> rcases List.mem_cons.mp g with e' | e'
    · rw [← e] at e'; cases e'; rfl
    · exact absurd (List.mem_map.mpr ⟨_, e', by rw [← e]⟩) nd.1
    · exact absurd (List.mem_map.mpr ⟨_, e, by rw [← e']⟩) nd.1
    · exact ih nd.2 e e'
theorem Bfs.start (t : α) : Bfs N t [(t, 0)] [t] := by
  refine ⟨by simp, by simp, by simp, fun v k h => ?_, fun v h => by simpa using h, fun v k h hn => ?_, by simp, fun a r e k h v l g => ?_⟩
  · simp at h; obtain ⟨rfl, rfl⟩ := h; exact ⟨[], rfl, rfl⟩
  · simp at h; obtain ⟨rfl, rfl⟩ := h; simp at hn
  · simp at g h; omega
/-- a turn: the first that waits tells its neighbours that are new -/
theorem Bfs.turn {t a : α} {st : List (α × Nat)} {r : List α} {k : Nat} (h : Bfs N t st (a :: r)) (ha : (a, k) ∈ st) (nn : (N a).Nodup) (sy : ∀ x y, y ∈ N x → x ∈ N y) :
    Bfs N t (st ++ ((N a).filter fun y => decide (y ∉ st.map (·.1))).map fun y => (y, k + 1)) (r ++ (N a).filter fun y => decide (y ∉ st.map (·.1))) := by
  have hnew : ∀ y ∈ (N a).filter (fun y => decide (y ∉ st.map (·.1))), y ∈ N a ∧ y ∉ st.map (·.1) := fun y hy => by
    have := List.mem_filter.mp hy
    exact ⟨this.1, of_decide_eq_true this.2⟩
  generalize hL : (N a).filter (fun y => decide (y ∉ st.map (·.1))) = L at hnew ⊢
  have hall : ∀ y ∈ N a, y ∈ st.map (·.1) ∨ y ∈ L := fun y hy => by
    by_cases e : y ∈ st.map (·.1)
    · exact .inl e
    · exact .inr (by rw [← hL]; exact List.mem_filter.mpr ⟨hy, decide_eq_true e⟩)
  have nL : L.Nodup := by rw [← hL]; exact nn.filter _
  have em : ∀ v l, (v, l) ∈ st ++ L.map (fun y => (y, k + 1)) ↔ (v, l) ∈ st ∨ (v ∈ L ∧ l = k + 1) := fun v l => by
    rw [List.mem_append, List.mem_map]
    constructor
    · rintro (h | ⟨y, hy, e⟩)
      · exact .inl h
      · cases e; exact .inr ⟨hy, rfl⟩
    · rintro (h | ⟨hy, e⟩)
      · exact .inl h
      · exact .inr ⟨v, hy, by rw [e]⟩
  have en : (st ++ L.map (fun y => (y, k + 1))).map (·.1) = st.map (·.1) ++ L := by
    rw [List.map_append, List.map_map]
    congr 1
    rw [show ((fun x : α × Nat => x.1) ∘ fun y => (y, k + 1)) = id from rfl, List.map_id]
  have nr : a ∉ r ∧ r.Nodup := List.nodup_cons.mp h.qn
  have old : ∀ v l, (v, l) ∈ st → v ∉ L := fun v l hv hl => (hnew v hl).2 (List.mem_map.mpr ⟨_, hv, rfl⟩)
  refine ⟨?_, ?_, ?_, ?_, ?_, ?_, ?_, ?_⟩
  · rw [en]
    exact List.nodup_append.mpr ⟨h.nd, nL, fun x hx y hy e => (hnew y hy).2 (e ▸ hx)⟩
  · exact List.nodup_append.mpr ⟨nr.2, nL, fun x hx y hy e => (hnew y hy).2 (e ▸ h.wait x (List.mem_cons_of_mem _ hx))⟩
  · exact (em _ _).mpr (.inl h.t0)
  · intro v l hv
    have hv0 := (em _ _).mp hv
    clear hv
    rcases hv0 with hv | ⟨hv, rfl⟩
    · exact h.way v l hv
    · obtain ⟨s, e, w⟩ := h.way a k ha
      exact ⟨a :: s, by rw [List.length_cons, e], sy _ _ (hnew v hv).1, w⟩
  · intro v hv
    rw [en]
    rcases List.mem_append.mp hv with hv | hv
    · exact List.mem_append.mpr (.inl (h.wait v (List.mem_cons_of_mem _ hv)))
    · exact List.mem_append.mpr (.inr hv)
  · intro v l hv hn y hy
    have hv0 := (em _ _).mp hv
    clear hv
    rcases hv0 with hv | ⟨hv, rfl⟩
    · by_cases e : v = a
      · subst e
        have el : l = k := uniq_of_nd h.nd hv ha
        subst el
        rcases hall y hy with z | z
        · obtain ⟨⟨y', m⟩, hm, ey⟩ := List.mem_map.mp z
          have ey' : y' = y := ey
          subst ey'
          exact ⟨m, (em _ _).mpr (.inl hm), h.top v r rfl l hv y' m hm⟩
        · exact ⟨l + 1, (em _ _).mpr (.inr ⟨z, rfl⟩), Nat.le_refl _⟩
      · have hn' : v ∉ a :: r := fun z => by
          rcases List.mem_cons.mp z with z | z
          · exact e z
          · exact hn (List.mem_append.mpr (.inl z))
        obtain ⟨m, hm, hl⟩ := h.done v l hv hn' y hy
        exact ⟨m, (em _ _).mpr (.inl hm), hl⟩
    · exact absurd (List.mem_append.mpr (.inr hv)) hn
  · have pr := List.pairwise_cons.mp h.rise
    refine List.pairwise_append.mpr ⟨?_, ?_, ?_⟩
    · refine pr.2.imp_of_mem fun {x y} hx hy hxy m n hm hn => ?_
      have hm0 := (em _ _).mp hm
      clear hm
      rcases hm0 with hm | ⟨hm, rfl⟩
      · have hn0 := (em _ _).mp hn
        clear hn
        rcases hn0 with hn | ⟨hn, rfl⟩
        · exact hxy m n hm hn
        · exact h.top a r rfl k ha x m hm
      · exact absurd (h.wait x (List.mem_cons_of_mem _ hx)) (hnew x hm).2
    · refine nL.imp_of_mem fun {x y} hx hy _ m n hm hn => ?_
      have hm0 := (em _ _).mp hm
      clear hm
      rcases hm0 with hm | ⟨hm, rfl⟩
      · exact absurd hx (old x m hm)
      · have hn0 := (em _ _).mp hn
        clear hn
        rcases hn0 with hn | ⟨hn, rfl⟩
        · exact absurd hy (old y n hn)
        · exact Nat.le_refl _
    · intro x hx y hy m n hm hn
      have hn0 := (em _ _).mp hn
      clear hn
      rcases hn0 with hn | ⟨_, rfl⟩
      · exact absurd hy (old y n hn)
      · have hm0 := (em _ _).mp hm
        clear hm
        rcases hm0 with hm | ⟨hm, rfl⟩
        · exact h.top a r rfl k ha x m hm
        · exact Nat.le_refl _
  · intro x s e m hm v l hv
    have hkm : k ≤ m := by
      have hm0 := (em _ _).mp hm
      clear hm
      rcases hm0 with hm | ⟨hm, rfl⟩
      · have hx : x ∈ r := by
          have : x ∈ r ++ L := by rw [e]; exact List.mem_cons_self ..
          rcases List.mem_append.mp this with z | z
          · exact z
          · exact absurd z (old x m hm)
        exact (List.pairwise_cons.mp h.rise).1 x hx k m ha hm
      · omega
    have hv0 := (em _ _).mp hv
    clear hv
    rcases hv0 with hv | ⟨hv, rfl⟩
    · have := h.top a r rfl k ha v l hv
      omega
    · omega
section
variable (le : α → α → Bool)
def leL : List α → List α → Bool
  | [], _ => true
  | _ :: _, [] => false
  | x :: xs, y :: ys => if x = y then leL xs ys else le x y
end
structure Ord (le : α → α → Bool) : Prop where
  rf : ∀ x, le x x = true
  tr : ∀ x y z, le x y = true → le y z = true → le x z = true
  an : ∀ x y, le x y = true → le y x = true → x = y
  tt : ∀ x y, (le x y || le y x) = true
variable {le : α → α → Bool}
theorem leL_anti (o : Ord le) : ∀ {l m : List α}, leL le l m = true → leL le m l = true → l = m
  | [], [], _, _ => rfl
  | [], _ :: _, _, h => by cases h
  | _ :: _, [], h, _ => by cases h
  | x :: l, y :: m, h, g => by
    unfold leL at h g
    by_cases e : x = y
    · subst e
      rw [if_pos rfl] at h g
      rw [leL_anti o h g]
    · rw [if_neg e] at h
      rw [if_neg (Ne.symm e)] at g
      exact absurd (o.an _ _ h g) e
/-- the first of the shortest ways -/
structure FstW (le : α → α → Bool) (N : α → List α) (a b : α) (r : List α) : Prop where
  w : Wk N a r b
  mn : ∀ s, Wk N a s b → r.length ≤ s.length
  fs : ∀ s, Wk N a s b → s.length = r.length → leL le r s = true
theorem FstW.uniq (o : Ord le) {a b : α} {r s : List α} (h : FstW le N a b r) (g : FstW le N a b s) : r = s := by
  have e : r.length = s.length := Nat.le_antisymm (h.mn s g.w) (g.mn r h.w)
  exact leL_anti o (h.fs s g.w e.symm) (g.fs r h.w e)
theorem FstW.nil (a : α) : FstW le N a a [] := ⟨rfl, fun _ _ => Nat.zero_le _, fun s _ _ => by unfold leL; rfl⟩
/-- a first way meets nothing twice -/
theorem Wk.nd_of {b : α} : ∀ {a : α} {r : List α}, Wk N a r b → (∀ s, Wk N a s b → r.length ≤ s.length) → (a :: r).Nodup := by
    intro a r
    induction r generalizing a with
    | nil => intro _ _; simp
    | cons x r ih =>
      intro w m
      have hm : ∀ s, Wk N x s b → r.length ≤ s.length := fun s ws => by
        have := m (x :: s) ⟨w.1, ws⟩
        simpa using this
      refine List.nodup_cons.mpr ⟨fun ha => ?_, ih w.2 hm⟩
      obtain ⟨p, q, e⟩ := List.append_of_mem ha
      have tail : ∀ {x : α} {p r q : List α}, x :: r = p ++ a :: q → Wk N x r b → Wk N a q b := by
        intro x p
        induction p generalizing x with
        | nil => intro r q e w3; injection e with e1 e2; rw [← e1, ← e2]; exact w3
        | cons y p ihp =>
          intro r q e w3
          injection e with e1 e2
          rw [e2] at w3
          cases p with
          | nil => exact w3.2
          | cons z p => exact ihp rfl w3.2
      have wq := tail e w.2
      have hq := m q wq
      have : (x :: r).length = (p ++ a :: q).length := by rw [e]
      simp at this hq
      omega
theorem FstW.nd {a b : α} {r : List α} (h : FstW le N a b r) : (a :: r).Nodup := Wk.nd_of h.w h.mn
theorem Wk.mem : ∀ {a b : α} {r : List α}, Wk N a r b → ∀ v ∈ r, ∃ u, v ∈ N u
  | _, _, _ :: _, ⟨h1, h2⟩, v, hv => by
    rcases List.mem_cons.mp hv with e | e
    · exact ⟨_, e ▸ h1⟩
    · exact h2.mem v e
end
end DL
namespace DL
open PySem PySem.Spec PyProof.Rows L2
section
variable {X : Cx} {W : WX} {K : PySem.W.Frag} {σ : L2.St} {H : Hp}
variable {i : Nat} {y : Str} {py pos spos : Pos} {kx vx tg iter : Expr} {ifs : List Expr} {scope : Scope} {own : List (Str × Nat)} {wi : WI} {g : TG} {gd : WG} {wt : WT} {wk wv : DL.WE}
/-- behind a statement the slot's dict is data -/
def sLockA (i : Nat) (u : WS) : WS := fun f ρ cs => u { f with nx := fun ρ' cs' => ∃ p kvs, ρ'[i]? = some (some (.opq (.ref p))) ∧ look p cs' = some (.dic kvs) ∧ f.nx (ρ'.set i (some (.dic kvs))) (del p cs') } ρ cs
theorem q_lockA {i : Nat} {ρ : DL.Env} {cs : Cs} {u : WS} {nx bk ct : DL.Env → Cs → Prop} {rt : D → Cs → Prop} {ex : Exn → DL.Env → Cs → Prop} (h : u ⟨fun ρ' cs' => ∃ p kvs, ρ'[i]? = some (some (.opq (.ref p))) ∧ look p cs' = some (.dic kvs) ∧ nx (ρ'.set i (some (.dic kvs))) (del p cs'), rt, ex, bk, ct⟩ ρ cs) : sLockA i u ⟨nx, rt, ex, bk, ct⟩ ρ cs := h
end
end DL
namespace DL
open PySem PySem.Spec PyProof.Rows L2
structure Grid where
  m : Nat
  n : Nat → Nat
  Y : Nat → Rat
  X : Nat → Nat → Rat
  x0 : Rat
  x1 : Rat
structure Grid.Ok (G : Grid) : Prop where
  y : ∀ i, i < G.m → G.Y i < G.Y (i + 1)
  x : ∀ i j, i < G.m → j < G.n i → G.X i j < G.X i (j + 1)
  b : ∀ i, i < G.m → G.X i 0 = G.x0
  e : ∀ i, i < G.m → G.X i (G.n i) = G.x1
def Grid.cell (G : Grid) (i j : Nat) : Bx := ⟨G.X i j, G.Y i, G.X i (j + 1) - G.X i j, G.Y (i + 1) - G.Y i⟩
def Grid.cells (G : Grid) : List Bx := (List.range G.m).flatMap fun i => (List.range (G.n i)).map (G.cell i)
def Bx.tr (b : Bx) : Bx := ⟨b.t, b.l, b.h, b.w⟩
def Dn (N : Nat) (r : Rat) : Prop := ∃ z : Int, r * ((N : Int) : Rat) = (z : Rat)
theorem Dn.add {N : Nat} {r s : Rat} (a : Dn N r) (b : Dn N s) : Dn N (r + s) := by
  obtain ⟨z, hz⟩ := a
  obtain ⟨y, hy⟩ := b
  exact ⟨z + y, by rw [Rat.add_mul, hz, hy, Rat.intCast_add]⟩
theorem Dn.sub {N : Nat} {r s : Rat} (a : Dn N r) (b : Dn N s) : Dn N (r - s) := by
  obtain ⟨z, hz⟩ := a
  obtain ⟨y, hy⟩ := b
  refine ⟨z - y, ?_⟩
  rw [Rat.intCast_sub, ← hz, ← hy]; grind
theorem Dn.zero (N : Nat) : Dn N 0 := ⟨0, by rw [Rat.zero_mul]; rfl⟩
theorem Dn.sum {N : Nat} : ∀ {l : List Rat}, (∀ r ∈ l, Dn N r) → Dn N l.sum
  | [], _ => Dn.zero N
  | r :: l, h => by
    rw [List.sum_cons]
    exact (h r (List.mem_cons_self ..)).add (Dn.sum fun s hs => h s (List.mem_cons_of_mem _ hs))
theorem Dn.mul {N : Nat} {x : Rat} (h : Dn N x) (M : Nat) : Dn (N * M) x := by
  obtain ⟨z, hz⟩ := h
  exact ⟨z * M, by rw [Int.natCast_mul, Rat.intCast_mul, ← Rat.mul_assoc, hz, Rat.intCast_mul]⟩
theorem Dn.den (x : Rat) : Dn x.den x := by
  have e := Rat.num_divInt_den x
  rw [Rat.divInt_eq_div] at e
  have hd : (((x.den : Int)) : Rat) ≠ 0 := fun q => den_ne x (Rat.intCast_eq_zero_iff.mp q)
  have e2 := Rat.div_mul_cancel (a := (x.num : Rat)) hd
  rw [e] at e2
  exact ⟨x.num, e2⟩
theorem Dn.sz {N n : Nat} {r : Rat} (h : Dn N r) (hN : 0 < N) (h1 : N < 2 ^ n) {k : Nat} (h2 : 0 ≤ r) (h3 : r < ((2 ^ k : Nat) : Int)) : Sz (n + k) r := by
  obtain ⟨z, hz⟩ := h
  have hN' : (((N : Int)) : Rat) ≠ 0 := fun q => by have := Rat.intCast_eq_zero_iff.mp q; omega
  have hr : r = Rat.divInt z N := by
    rw [Rat.divInt_eq_div, ← hz, Rat.mul_div_cancel hN']
  have z0 : 0 ≤ z := by
    have : (0 : Rat) ≤ (z : Rat) := by rw [← hz]; exact Rat.mul_nonneg h2 (Rat.intCast_nonneg.mpr (by omega))
    exact Rat.intCast_nonneg.mp this
  have z1 : z < (2 ^ k : Nat) * N := by
    have hp : (0 : Rat) < ((N : Int) : Rat) := Rat.intCast_pos.mpr (by omega)
    have := Rat.mul_lt_mul_of_pos_right h3 hp
    rw [hz, ← Rat.intCast_mul] at this
    exact Rat.intCast_lt_intCast.mp this
  rw [hr]
  refine Sz.divInt (n := n + k) (by omega) ?_ ?_ (Nat.le_refl _)
  · have h4 : (2 ^ k : Nat) * N < 2 ^ (n + k) := by
      rw [Nat.pow_add, Nat.mul_comm (2 ^ n)]
      exact Nat.mul_lt_mul_of_pos_left h1 (Nat.two_pow_pos k)
    have h5 : z < ((2 ^ k * N : Nat) : Int) := by rw [Int.natCast_mul]; exact z1
    omega
  · have : 2 ^ n ≤ 2 ^ (n + k) := Nat.pow_le_pow_right (by decide) (by omega)
    omega
end DL
namespace DL
open PySem PySem.Spec PyProof.Rows L2
section
variable {X : Cx} {W : WX} {K : PySem.W.Frag}
def sSetSl (wv wo : DL.WE) (wl wh : WO) : WS := fun f ρ cs => wv ρ cs (fun y cs1 => wo ρ cs1 (fun x cs2 => wl ρ cs2 (fun i cs3 => wh ρ cs3 (fun j cs4 => ∃ (p q : Addr) (xs ys : List D) (a c : Int), x = .opq (.ref p) ∧ y = .opq (.ref q) ∧ i = some a ∧ j = some c ∧ look p cs4 = some (.lst xs) ∧ look q cs4 = some (.lst ys) ∧ p ≠ q ∧
  0 ≤ a ∧ a ≤ c ∧ c ≤ xs.length ∧ xs.length + ys.length ≤ 100000 ∧ f.nx ρ (put p (.lst (xs.take a.toNat ++ ys ++ xs.drop c.toNat)) cs4)) (fun x cs1 => f.ex x ρ cs1)) (fun x cs1 => f.ex x ρ cs1)) (fun x cs1 => f.ex x ρ cs1)) (fun x cs1 => f.ex x ρ cs1)
/-- [..] * n, a list that will change -/
def wLRepM (w : WA) (wb : DL.WE) : DL.WE := fun ρ cs P Z => w ρ cs (fun ds cs1 => wb ρ cs1 (fun y cs2 => ∃ k : Nat, y = .int (k : Int) ∧ ds.length * k ≤ 100000 ∧ k ≤ 100000 ∧ ∀ q, q ∉ adr cs2 → P (.opq (.ref q)) ((q, .lst (List.replicate k ds).flatten) :: cs2)) Z) Z
end
section
variable {ρ : DL.Env} {cs : Cs} {P : DP} {Z : XZ} {w : WA} {wb wv wo : DL.WE} {wl wh : WO} {nx bk ct : DL.Env → Cs → Prop} {rt : D → Cs → Prop} {ex : Exn → DL.Env → Cs → Prop}
theorem q_setSl (h : wv ρ cs (fun y cs1 => wo ρ cs1 (fun x cs2 => wl ρ cs2 (fun i cs3 => wh ρ cs3 (fun j cs4 => ∃ (p q : Addr) (xs ys : List D) (a c : Int), x = .opq (.ref p) ∧ y = .opq (.ref q) ∧ i = some a ∧ j = some c ∧ look p cs4 = some (.lst xs) ∧ look q cs4 = some (.lst ys) ∧ p ≠ q ∧
  0 ≤ a ∧ a ≤ c ∧ c ≤ xs.length ∧ xs.length + ys.length ≤ 100000 ∧ nx ρ (put p (.lst (xs.take a.toNat ++ ys ++ xs.drop c.toNat)) cs4)) (fun x cs1 => ex x ρ cs1)) (fun x cs1 => ex x ρ cs1)) (fun x cs1 => ex x ρ cs1)) (fun x cs1 => ex x ρ cs1)) : sSetSl wv wo wl wh ⟨nx, rt, ex, bk, ct⟩ ρ cs := h
theorem r_lrepM (h : w ρ cs (fun ds cs1 => wb ρ cs1 (fun y cs2 => ∃ k : Nat, y = .int (k : Int) ∧ ds.length * k ≤ 100000 ∧ k ≤ 100000 ∧ ∀ q, q ∉ adr cs2 → P (.opq (.ref q)) ((q, .lst (List.replicate k ds).flatten) :: cs2)) Z) Z) : wLRepM w wb ρ cs P Z := h
end
def rowF (f : Nat → Nat → Str) (C r : Nat) : List Str := (List.range C).map (f r)
/-- the rows at ps, told at q; what stood ahead (cs) stands -/
structure RowsAt (cs : Cs) (f : Nat → Nat → Str) (R C : Nat) (q : Addr) (ps : List Addr) (cs' : Cs) : Prop where
  out : look q cs' = some (.lst (ps.map fun p => .opq (.ref p)))
  len : ps.length = R
  row : ∀ (r : Nat) (p : Addr), ps[r]? = some p → look p cs' = some (.lst ((rowF f C r).map D.str))
  nd : ps.Nodup
  qn : q ∉ ps
  fr : ∀ a m, look a cs = some m → look a cs' = some m ∧ a ≠ q ∧ a ∉ ps
theorem RowsAt.put {cs cs' : Cs} {f : Nat → Nat → Str} {R C r : Nat} {q p : Addr} {ps : List Addr} (h : RowsAt cs f R C q ps cs') (hp : ps[r]? = some p) {g : Nat → Nat → Str} (hg : ∀ j, j ≠ r → rowF g C j = rowF f C j) : RowsAt cs g R C q ps (put p (.lst ((rowF g C r).map D.str)) cs') := by
  have hm := List.mem_of_getElem? hp
  have hq : q ≠ p := fun e => h.qn (e ▸ hm)
  refine ⟨by rw [look_put_ne hq]; exact h.out, h.len, fun j p' hj => ?_, h.nd, h.qn, fun a m ha => ?_⟩
  · by_cases e : p' = p
    · subst e
      have ej : j = r := by
        obtain ⟨hj1, hj2⟩ := List.getElem?_eq_some_iff.mp hj
        obtain ⟨hr1, hr2⟩ := List.getElem?_eq_some_iff.mp hp
        exact (List.getElem_inj h.nd).mp (hj2.trans hr2.symm)
      subst ej
      exact look_put (h.row j p' hj)
    · rw [look_put_ne e, hg j (fun ej => e (by subst ej; rw [hj] at hp; exact Option.some.inj hp))]
      exact h.row j p' hj
  · obtain ⟨a1, a2, a3⟩ := h.fr a m ha
    have hap : a ≠ p := fun e => a3 (by rw [e]; exact hm)
    exact ⟨by rw [look_put_ne hap]; exact a1, a2, a3⟩
theorem RowsAt.del {cs cs' : Cs} {f : Nat → Nat → Str} {R C : Nat} {q z : Addr} {ps : List Addr} {m : MO} (h : RowsAt cs f R C q ps ((z, m) :: cs')) (hz : z ∉ adr cs') (z1 : z ≠ q) (z2 : z ∉ ps) (z3 : look z cs = none) : RowsAt cs f R C q ps cs' := by
  have ne : ∀ {a : Addr}, a ≠ z → look a ((z, m) :: cs') = look a cs' := fun {a} e => look_cons_ne e
  refine ⟨by rw [← ne (Ne.symm z1)]; exact h.out, h.len, fun r p hp => ?_, h.nd, h.qn, fun a u ha => ?_⟩
  · rw [← ne (fun e => z2 (e ▸ List.mem_of_getElem? hp))]; exact h.row r p hp
  · obtain ⟨a1, a2, a3⟩ := h.fr a u ha
    have : a ≠ z := fun e => by rw [e, z3] at ha; cases ha
    rw [ne this] at a1
    exact ⟨a1, a2, a3⟩
end DL
namespace Lw
open PySem PySem.Spec PyProof.Rows L2 DL
local macro_rules | `(tactic| walk_at "st") => `(tactic| (first
  | with_reducible refine r_kT ?_ | with_reducible refine r_kF ?_ | with_reducible refine r_nT ?_ | with_reducible refine r_nF ?_ | with_reducible refine r_nx ?_ | with_reducible refine r_rt ?_ | with_reducible refine r_bk ?_ | with_reducible refine r_cn ?_ | with_reducible refine r_gN ?_ | with_reducible refine r_gCn ?_ | with_reducible refine r_gNl ?_ | ((with_reducible apply r_gT); (exact rfl)) | with_reducible refine r_sif ?_ | with_reducible refine r_set ?_ | with_reducible refine r_asg ?_ | with_reducible refine r_ret ?_ | with_reducible refine r_op ?_ | with_reducible refine r_test ?_
  | ((with_reducible apply r_var); (exact rfl)) | with_reducible refine r_c ?_ | with_reducible refine r_cons ?_ | with_reducible refine r_nil ?_ | with_reducible refine r_call ?_ | with_reducible refine r_cb ?_
  | with_reducible refine r_tup ?_ | with_reducible refine r_lst ?_ | with_reducible refine r_par ?_ | with_reducible refine r_setix ?_ | with_reducible refine r_and ?_ | with_reducible refine r_or ?_ | with_reducible refine r_not ?_
  | with_reducible refine r_if ?_ | with_reducible refine r_andV ?_ | with_reducible refine r_orV ?_ | with_reducible refine r_notV ?_ | with_reducible refine r_drop ?_ | with_reducible refine r_next ?_ | with_reducible refine r_un ?_ | with_reducible refine r_for ?_
  | with_reducible refine r_mtL ?_ | with_reducible refine r_mtL0 ?_ | with_reducible refine r_seqI ?_ | with_reducible refine r_tupI ?_ | with_reducible refine r_rg1 ?_ | with_reducible refine r_retN ?_ | with_reducible refine r_brk ?_ | with_reducible refine r_ct ?_
  | with_reducible refine r_ixR0 ?_ | with_reducible refine r_ixR1 ?_ | with_reducible refine r_add ?_ | with_reducible refine r_sub ?_ | with_reducible refine r_lt ?_ | with_reducible refine r_le ?_ | with_reducible refine r_gt ?_ | with_reducible refine r_ge ?_ | with_reducible refine r_neg ?_
  | with_reducible refine r_eqI ?_ | with_reducible refine r_neI ?_ | with_reducible refine r_eqR ?_ | with_reducible refine r_neR ?_ | with_reducible refine r_eqBs ?_ | with_reducible refine r_neBs ?_ | with_reducible refine r_isN ?_ | with_reducible refine r_notN ?_ | with_reducible refine r_isBs ?_ | with_reducible refine r_notBs ?_ | with_reducible refine r_isB ?_ | with_reducible refine r_notB ?_ | with_reducible refine r_eqB ?_ | with_reducible refine r_neB ?_ | with_reducible refine r_eqS ?_ | with_reducible refine r_neS ?_
  | ((with_reducible apply r_ixT); (exact rfl)) | ((with_reducible apply r_ixL); (exact rfl))
  | ((with_reducible apply r_ixM); (first | assumption | exact look_put (by assumption) | exact look_put (look_put (by assumption)) | exact look_put (look_put (look_put (by assumption))) | exact look_put (look_put (look_put (look_put (by assumption))))); (exact rfl))
  | ((with_reducible apply r_setL); (first | assumption | exact look_put (by assumption) | exact look_put (look_put (by assumption)) | exact look_put (look_put (look_put (by assumption))) | exact look_put (look_put (look_put (look_put (by assumption))))); (exact rfl))
  | ((with_reducible apply r_mul); (first | exact mulOk_r (by decide) | exact mulOk_l (by decide) | assumption | exact mulOk_r (by omega) | exact mulOk_l (by omega)))
  | ((with_reducible apply r_mod); (first | assumption | decide)) | ((with_reducible apply r_div); (first | assumption | exact ⟨by decide, by decide⟩)) | ((with_reducible apply r_pow); (exact ⟨by decide, by decide, by decide⟩))
  | ((with_reducible apply r_count); (exact rfl); (exact rfl)) | with_reducible refine r_abs ?_ | ((with_reducible apply r_isiT); (exact rfl)) | ((with_reducible apply r_isiF); (exact rfl)) | ((with_reducible apply r_isiTT); (exact rfl); (exact rfl); (exact rfl)) | ((with_reducible apply r_isiTF); (exact rfl); (exact rfl); (exact rfl)) | with_reducible refine r_tupleL ?_ | with_reducible refine r_tupleT ?_ | with_reducible refine r_sl ?_ | with_reducible refine r_revL ?_ | with_reducible refine r_revLL ?_ | with_reducible refine r_noPart ?_ | with_reducible refine DL.r_part ?_ | with_reducible refine r_slL ?_ | with_reducible refine r_slT ?_ | with_reducible refine r_yes ?_ | with_reducible refine r_comp ?_ | with_reducible refine r_zipL ?_ | with_reducible refine r_lenL ?_ | with_reducible refine r_lenT ?_ | with_reducible refine r_listL ?_ | with_reducible refine r_listT ?_ | with_reducible refine r_isL ?_
  | with_reducible refine r_ixB0 ?_ | with_reducible refine r_ixB1 ?_ | with_reducible refine r_ixB2 ?_ | with_reducible refine r_ixB3 ?_ | with_reducible refine r_eqDn ?_ | with_reducible refine r_eqAc ?_ | with_reducible refine r_frz ?_ | with_reducible refine r_frzH ?_ | (with_reducible refine ⟨_, _, rfl, look_hd, ?_⟩; rw [del_hd]) | with_reducible refine r_isMH ?_ | with_reducible refine r_lstM ?_ | with_reducible refine r_chain ?_ | with_reducible refine r_par3 ?_ | with_reducible refine r_callK ?_ | with_reducible refine r_anyI ?_ | with_reducible refine r_callD ?_
  | ((with_reducible apply r_aug); (exact rfl))))
local macro_rules | `(tactic| walk_at "g1") => `(tactic| repeat (walk_at "st"))
local macro_rules | `(tactic| walk_at "go") => `(tactic| repeat (first | with_reducible refine r_seq ?_ | walk_at "st"))
local macro_rules | `(tactic| walk_at "s2") => `(tactic| (first
  | with_reducible refine r_compM_ ?_ | with_reducible refine r_comp2 ?_ | with_reducible refine r_zip ?_ | with_reducible refine r_zipM ?_ | with_reducible refine r_lenH ?_ | with_reducible refine r_lenXL ?_ | with_reducible refine r_tupH ?_ | with_reducible refine r_tupXL ?_ | with_reducible refine r_tupXT ?_ | with_reducible refine r_listXH ?_ | with_reducible refine r_listXL ?_ | with_reducible refine r_listXT ?_ | with_reducible refine r_listML ?_ | with_reducible refine r_listMT ?_ | with_reducible refine r_min2 ?_ | with_reducible refine r_max2 ?_ | with_reducible refine r_sumL ?_ | with_reducible refine r_sumT ?_ | with_reducible refine r_clearH ?_ | with_reducible refine r_gStar ?_ | with_reducible refine r_gone ?_ | with_reducible refine r_goneH ?_ | with_reducible refine r_ix0 ?_ | with_reducible refine r_ix0T ?_ | with_reducible refine r_slAL ?_ | with_reducible refine r_slAT ?_ | with_reducible refine r_flatB ?_ | with_reducible refine r_dn1 ?_ | with_reducible refine r_ac1 ?_ | with_reducible refine r_dn2 ?_ | with_reducible refine r_ac2 ?_ | with_reducible refine r_dn3 ?_ | with_reducible refine r_ac3 ?_ | with_reducible refine r_dn4 ?_ | with_reducible refine r_ac4 ?_ | with_reducible refine r_dn5 ?_ | with_reducible refine r_ac5 ?_ | with_reducible refine r_app11 ?_ | with_reducible refine r_app12 ?_ | with_reducible refine r_app21 ?_ | with_reducible refine r_app22 ?_ | with_reducible refine r_app31 ?_ | with_reducible refine r_app32 ?_ | with_reducible refine r_app41 ?_ | with_reducible refine r_app42 ?_ | with_reducible refine r_app51 ?_ | with_reducible refine r_app52 ?_
  | ((with_reducible apply r_lenW); (assumption)) | ((with_reducible apply r_sumW); (assumption)) | ((with_reducible apply r_catLL); (walk_at "in")) | ((with_reducible apply r_catML); (walk_at "in")) | ((with_reducible apply r_catT); (walk_at "in")) | ((with_reducible apply r_catB); (walk_at "in")) | ((with_reducible apply r_appendH); (walk_at "in"))))
local macro_rules | `(tactic| walk_at "s0") => `(tactic| (first
  | with_reducible refine q_sif ?_ | with_reducible refine q_set ?_ | with_reducible refine q_asg ?_ | with_reducible refine q_ret ?_ | with_reducible refine q_drop ?_ | with_reducible refine q_next ?_ | with_reducible refine q_par ?_ | with_reducible refine q_for ?_ | with_reducible refine q_par3 ?_ | with_reducible refine q_setix ?_ | with_reducible refine q_brk ?_ | with_reducible refine q_ct ?_ | with_reducible refine q_retN ?_ | ((with_reducible apply q_aug); (exact rfl))))
local macro_rules | `(tactic| walk_at "cl") => `(tactic| fail)
local macro_rules | `(tactic| walk_at "n0") => `(tactic| (first | ((with_reducible refine g_e ?_); (first | with_reducible refine r_op ?_ | ((with_reducible apply r_var); (exact rfl)) | with_reducible refine r_c ?_ | with_reducible refine r_call ?_ | with_reducible refine r_cb ?_ | with_reducible refine r_tup ?_ | with_reducible refine r_lst ?_ | with_reducible refine r_if ?_ | with_reducible refine r_andV ?_ | with_reducible refine r_orV ?_ | with_reducible refine r_notV ?_ | with_reducible refine r_un ?_ | with_reducible refine r_mtL ?_ | with_reducible refine r_mtL0 ?_ | with_reducible refine r_sl ?_ | with_reducible refine r_revL ?_ | with_reducible refine r_revLL ?_ | with_reducible refine r_comp ?_ | with_reducible refine r_frz ?_ | with_reducible refine r_lstM ?_ | with_reducible refine r_chain ?_ | with_reducible refine r_callK ?_ | with_reducible refine r_callD ?_ | with_reducible refine r_compM_ ?_ | with_reducible refine r_comp2 ?_ | with_reducible refine r_gone ?_ | with_reducible refine r_newK ?_ | with_reducible refine r_newT ?_ | with_reducible refine r_oneK ?_ | with_reducible refine r_lockD ?_ | with_reducible refine r_dcK ?_ | with_reducible refine r_dcT ?_ | with_reducible refine r_dcKT ?_ | with_reducible refine r_lstR ?_ | with_reducible refine r_lstZ ?_ | with_reducible refine r_lstRM ?_ | with_reducible refine r_mtD ?_ | with_reducible refine r_get2 ?_ | with_reducible refine r_lenSet ?_ | with_reducible refine r_lrep ?_ | with_reducible refine r_lrepM ?_ | with_reducible refine r_slrep ?_ | with_reducible refine r_callG ?_ | ((with_reducible apply r_lam); (walk_at "tb")) | with_reducible refine r_ask ?_ | with_reducible refine r_why ?_ | with_reducible refine r_m1 ?_ | with_reducible refine r_fmt ?_ | with_reducible refine r_joined ?_)) | ((with_reducible refine g_a ?_); (first | with_reducible refine r_cons ?_ | with_reducible refine r_nil ?_ | with_reducible refine r_seqI ?_ | with_reducible refine r_tupI ?_ | with_reducible refine r_rg1 ?_ | with_reducible refine r_zipL ?_ | with_reducible refine r_anyI ?_ | with_reducible refine r_zip ?_ | with_reducible refine r_zipM ?_ | with_reducible refine r_keysI ?_ | with_reducible refine r_itT ?_ | with_reducible refine r_strI ?_ | with_reducible refine r_orT ?_ | with_reducible refine r_itK ?_ | with_reducible refine r_rg2 ?_ | with_reducible refine r_rev1 ?_ | with_reducible refine r_rg3 ?_)) | ((with_reducible refine g_2 ?_); (first | with_reducible refine r_ixR0 ?_ | with_reducible refine r_ixR1 ?_ | with_reducible refine r_add ?_ | with_reducible refine r_sub ?_ | with_reducible refine r_lt ?_ | with_reducible refine r_le ?_ | with_reducible refine r_gt ?_ | with_reducible refine r_ge ?_ | with_reducible refine r_eqI ?_ | with_reducible refine r_neI ?_ | with_reducible refine r_eqR ?_ | with_reducible refine r_neR ?_ | with_reducible refine r_eqSs ?_ | with_reducible refine r_neSs ?_ | with_reducible refine r_eqBs ?_ | with_reducible refine r_neBs ?_ | with_reducible refine r_isN ?_ | with_reducible refine r_notN ?_ | with_reducible refine r_isBs ?_ | with_reducible refine r_notBs ?_ | with_reducible refine r_isB ?_ | with_reducible refine r_notB ?_ | with_reducible refine r_eqB ?_ | with_reducible refine r_neB ?_ | with_reducible refine r_eqS ?_ | with_reducible refine r_neS ?_ | ((with_reducible apply r_ixT); (exact rfl)) | ((with_reducible apply r_ixL); (exact rfl)) | ((with_reducible apply r_ixM); (first | assumption | exact look_put (by assumption) | exact look_put (look_put (by assumption)) | exact look_put (look_put (look_put (by assumption))) | exact look_put (look_put (look_put (look_put (by assumption))))); (exact rfl)) | ((with_reducible apply r_mul); (first | exact mulOk_r (by decide) | exact mulOk_l (by decide) | assumption | exact mulOk_r (by omega) | exact mulOk_l (by omega))) | ((with_reducible apply r_mod); (first | assumption | decide)) | ((with_reducible apply r_div); (first | assumption | exact ⟨by decide, by decide⟩)) | ((with_reducible apply r_pow); (exact ⟨by decide, by decide, by decide⟩)) | with_reducible refine r_ixB0 ?_ | with_reducible refine r_ixB1 ?_ | with_reducible refine r_ixB2 ?_ | with_reducible refine r_ixB3 ?_ | with_reducible refine r_eqDn ?_ | with_reducible refine r_eqAc ?_ | with_reducible refine r_ix0 ?_ | with_reducible refine r_ix0T ?_ | ((with_reducible apply r_catLL); (walk_at "in")) | ((with_reducible apply r_catML); (walk_at "in")) | ((with_reducible apply r_catT); (walk_at "in")) | ((with_reducible apply r_catB); (walk_at "in")) | ((with_reducible apply r_catS); (walk_at "in")) | with_reducible refine r_inS ?_ | ((with_reducible apply r_getSh); (walk_at "in"); (walk_at "in"); (walk_at "in")) | ((with_reducible apply r_getKI); (first | assumption | (walk_at "lk"))) | ((with_reducible apply r_getKS); (first | assumption | (walk_at "lk"))) | ((with_reducible apply r_getT2); (first | assumption | (walk_at "lk"))) | ((with_reducible apply r_getMI); (first | exact look_hd | assumption); (first | assumption | (walk_at "lk"))) | ((with_reducible apply r_getMS); (first | exact look_hd | assumption); (first | assumption | (walk_at "lk"))) | ((with_reducible apply r_getMT2); (first | exact look_hd | assumption); (first | assumption | (walk_at "lk"))) | with_reducible refine r_inKI ?_ | with_reducible refine r_inKS ?_ | with_reducible refine r_inT2 ?_ | with_reducible refine r_notKI ?_ | with_reducible refine r_notKS ?_ | with_reducible refine r_inLI ?_ | with_reducible refine r_inTI ?_ | with_reducible refine r_niLI ?_ | with_reducible refine r_niTI ?_ | with_reducible refine r_inLS ?_ | with_reducible refine r_niLS ?_ | ((with_reducible apply r_inMI); (first | exact look_hd | assumption)) | ((with_reducible apply r_inMS); (first | exact look_hd | assumption)) | ((with_reducible apply r_notMI); (first | exact look_hd | assumption)) | ((with_reducible apply r_notMS); (first | exact look_hd | assumption)))) | ((with_reducible refine g_c ?_); (first | with_unfolding_none refine r_kT ?_ | with_unfolding_none refine r_kF ?_ | with_unfolding_none refine r_nT ?_ | with_unfolding_none refine r_nF ?_ | with_reducible refine r_isL ?_ | with_reducible refine r_isMH ?_ | ((with_reducible apply r_isDM); (first | exact look_hd | assumption)) | with_reducible refine r_ddK ?_ | ((with_reducible apply r_ddM); (first | exact look_hd | assumption)) | with_reducible refine r_flatB ?_)) | ((with_reducible refine g_t ?_); (first | with_reducible refine r_test ?_ | with_reducible refine r_and ?_ | with_reducible refine r_or ?_ | with_reducible refine r_not ?_ | with_reducible refine r_yes ?_)) | ((with_reducible refine g_p ?_); (first | with_reducible refine r_dn1 ?_ | with_reducible refine r_ac1 ?_ | with_reducible refine r_dn2 ?_ | with_reducible refine r_ac2 ?_ | with_reducible refine r_dn3 ?_ | with_reducible refine r_ac3 ?_ | with_reducible refine r_dn4 ?_ | with_reducible refine r_ac4 ?_ | with_reducible refine r_dn5 ?_ | with_reducible refine r_ac5 ?_ | with_reducible refine r_app11 ?_ | with_reducible refine r_app12 ?_ | with_reducible refine r_app21 ?_ | with_reducible refine r_app22 ?_ | with_reducible refine r_app31 ?_ | with_reducible refine r_app32 ?_ | with_reducible refine r_app41 ?_ | with_reducible refine r_app42 ?_ | with_reducible refine r_app51 ?_ | with_reducible refine r_app52 ?_ | walk_at "cl")) | ((with_reducible refine g_n ?_); (first | with_reducible refine r_abs ?_ | ((with_reducible apply r_isiT); (exact rfl)) | ((with_reducible apply r_isiF); (exact rfl)) | ((with_reducible apply r_isiTT); (exact rfl); (exact rfl); (exact rfl)) | ((with_reducible apply r_isiTF); (exact rfl); (exact rfl); (exact rfl)) | with_reducible refine r_tupleL ?_ | with_reducible refine r_tupleT ?_ | with_reducible refine r_lenL ?_ | with_reducible refine r_lenT ?_ | with_reducible refine r_listL ?_ | with_reducible refine r_listT ?_ | with_reducible refine r_listB ?_ | with_reducible refine r_lenB ?_ | with_reducible refine r_lenH ?_ | with_reducible refine r_lenXL ?_ | with_reducible refine r_tupH ?_ | with_reducible refine r_tupXL ?_ | with_reducible refine r_tupXT ?_ | with_reducible refine r_listXH ?_ | with_reducible refine r_listXL ?_ | with_reducible refine r_listXT ?_ | with_reducible refine r_listML ?_ | with_reducible refine r_listMT ?_ | with_reducible refine r_min2 ?_ | with_reducible refine r_max2 ?_ | with_reducible refine r_sumL ?_ | with_reducible refine r_sumT ?_ | ((with_reducible apply r_lenW); (assumption)) | ((with_reducible apply r_sumW); (assumption)))) | ((with_reducible refine g_g ?_); (first | with_reducible refine r_gN ?_ | ((with_reducible apply r_gT); (exact rfl)) | ((with_reducible apply r_gL); (exact rfl)) | with_reducible refine r_gStar ?_)) | ((with_reducible refine g_gs ?_); (first | with_reducible refine r_gCn ?_ | with_reducible refine r_gNl ?_)) | ((with_reducible refine g_m ?_); (first | ((with_reducible apply r_count); (exact rfl); (exact rfl)) | with_reducible refine r_clearH ?_ | ((with_reducible apply r_appendH); (walk_at "in")) | ((with_reducible apply r_updH); (walk_at "in")))) | ((with_reducible refine g_o ?_); (first | with_reducible refine r_noPart ?_ | with_reducible refine DL.r_part ?_)) | ((with_reducible refine g_w ?_); (first | ((with_reducible apply r_setL); (first | assumption | exact look_put (by assumption) | exact look_put (look_put (by assumption)) | exact look_put (look_put (look_put (by assumption))) | exact look_put (look_put (look_put (look_put (by assumption))))); (exact rfl)) | ((with_reducible apply r_setKI); (walk_at "in")) | ((with_reducible apply r_setKS); (walk_at "in")))) | with_reducible refine r_isStr ?_ | with_reducible refine r_jsC ?_ | with_reducible refine r_jsN ?_ | with_reducible refine r_neg ?_ | with_reducible refine r_slL ?_ | with_reducible refine r_slT ?_ | with_reducible refine r_slB ?_ | with_reducible refine r_frzH ?_ | (with_reducible refine ⟨_, _, rfl, look_hd, ?_⟩; rw [del_hd]) | with_reducible refine r_goneH ?_ | with_reducible refine r_slAL ?_ | with_reducible refine r_slAT ?_ | ((with_reducible apply r_setT2); (walk_at "in")) | (with_reducible refine ⟨_, rfl, look_hd, ?_⟩; rw [put_hd]) | (with_reducible refine ⟨_, rfl, Or.inl ⟨_, look_hd, ?_⟩⟩; rw [del_hd]) | (with_reducible refine ⟨_, rfl, Or.inr ⟨_, look_hd, ?_⟩⟩; rw [del_hd]) | with_reducible refine r_goneEx ?_ | with_reducible refine r_gvKI ?_ | with_reducible refine r_gvKS ?_ | ((with_reducible apply r_gvMI); (first | exact look_hd | assumption)) | ((with_reducible apply r_gvMS); (first | exact look_hd | assumption)) | with_reducible refine r_ks2 ?_ | with_reducible refine r_kkI ?_ | with_reducible refine r_kkS ?_ | ((with_reducible apply r_pk2); (exact rfl); (exact rfl)) | ((with_reducible apply r_pk1); (exact rfl)) | ((with_reducible apply r_lrepE); (walk_at "in"); (walk_at "in")) | refine And.intro (show _ ∈ exL by decide) ⟨_, rfl, ?_⟩))
local macro_rules | `(tactic| walk_at "nS") => `(tactic| ((with_reducible refine g_s ?_); (first | with_reducible refine r_raise ?_ | with_reducible refine q_sif ?_ | with_reducible refine q_set ?_ | with_reducible refine q_asg ?_ | with_reducible refine q_ret ?_ | with_reducible refine q_drop ?_ | with_reducible refine q_next ?_ | with_reducible refine q_par ?_ | with_reducible refine q_for ?_ | with_reducible refine q_par3 ?_ | with_reducible refine q_setix ?_ | with_reducible refine q_brk ?_ | with_reducible refine q_ct ?_ | with_reducible refine q_retN ?_ | with_reducible refine q_setDK ?_ | with_reducible refine q_setDT ?_ | with_reducible refine q_goneA ?_ | with_reducible refine q_frzA ?_ | with_reducible refine q_lockA ?_ | with_reducible refine q_setSl ?_ | ((with_reducible apply q_aug); (exact rfl)))))
local macro_rules | `(tactic| walk_at "nQ") => `(tactic| ((with_reducible refine g_s ?_); (first | with_reducible refine r_raise ?_ | with_reducible refine r_seq ?_ | with_reducible refine q_sif ?_ | with_reducible refine q_set ?_ | with_reducible refine q_asg ?_ | with_reducible refine q_ret ?_ | with_reducible refine q_drop ?_ | with_reducible refine q_next ?_ | with_reducible refine q_par ?_ | with_reducible refine q_for ?_ | with_reducible refine q_par3 ?_ | with_reducible refine q_setix ?_ | with_reducible refine q_brk ?_ | with_reducible refine q_ct ?_ | with_reducible refine q_retN ?_ | with_reducible refine q_setDK ?_ | with_reducible refine q_setDT ?_ | with_reducible refine q_goneA ?_ | with_reducible refine q_frzA ?_ | with_reducible refine q_lockA ?_ | with_reducible refine q_setSl ?_ | ((with_reducible apply q_aug); (exact rfl)))))
local macro_rules | `(tactic| walk_at "lk") => `(tactic| fail)
local macro_rules | `(tactic| walk_at "ge") => `(tactic| first | assumption | exact Rat.le_refl)
local macro_rules | `(tactic| walk_at "G1") => `(tactic| repeat (first | walk_at "nS" | walk_at "n0"))
local macro_rules | `(tactic| walk_at "GO") => `(tactic| repeat (first | walk_at "nQ" | walk_at "n0"))
local macro_rules | `(tactic| walk_at "nz") => `(tactic| first | assumption | (refine Rat.ne_of_gt ?_; walk_at "pz"))
local macro_rules | `(tactic| walk_at "pz") => `(tactic| first | assumption | (refine Bx.Pos.w ?_; assumption) | (refine Bx.Pos.h ?_; assumption) | (apply Rat.mul_pos <;> walk_at "pz") | (apply divInt_pos' <;> omega) | (apply Rat.div_pos <;> walk_at "pz"))
local macro_rules | `(tactic| walk_at "sy") => `(tactic| first | assumption | ((apply Bx.Sz.l); assumption) | ((apply Bx.Sz.t); assumption) | ((apply Bx.Sz.w); assumption) | ((apply Bx.Sz.h); assumption) | (apply Sz.absR; walk_at "sy") | (apply Sz.add <;> walk_at "sy") | (apply Sz.sub <;> walk_at "sy") | (apply Sz.mul <;> walk_at "sy") | ((apply Sz.shape); (walk_at "sy"); (walk_at "sy"); (walk_at "pz"); (walk_at "pz")) | ((apply Sz.div); (walk_at "sy"); (walk_at "sy"); (walk_at "nz")) | (apply Sz.frac <;> omega))
local macro_rules | `(tactic| walk_at "sz") => `(tactic| first | assumption | ((apply Sz.mono); (walk_at "sy"); (decide)) | ((apply Bx.Sz.mono); (assumption); (decide)) | exact ⟨by decide, by decide⟩)
local macro_rules | `(tactic| walk_at "bg") => `(tactic| first | assumption | exact BagStep.bag (by assumption) | ((refine BagIn.over ?_ ?_); (assumption); (walk_at "bg")))
local macro_rules | `(tactic| walk_at "in") => `(tactic| first | with_reducible assumption | omega | decide | (simp only [List.length_map, List.length_cons, List.length_nil, List.length_append, List.length_take, List.length_drop]; omega))
local macro_rules | `(tactic| walk_at "wd") => `(tactic| first | assumption | exact WD.l _ | exact WD.t _)
local macro_rules | `(tactic| walk_at "p9") => `(tactic| first | assumption | exact szlt (by omega) (by omega))
local macro_rules | `(tactic| walk_at "pb") => `(tactic| first | assumption)
local macro_rules | `(tactic| walk_at "zs") => `(tactic| first | assumption)
local macro_rules | `(tactic| walk_at "pl") => `(tactic| first | assumption | rfl | ((apply plD_Bxs); (walk_at "in")) | ((apply plD_ints); (walk_at "in")) | ((apply plD_intsT); (walk_at "in")) | exact plD_dR _)
local macro_rules | `(tactic| walk_at "tb") => `(tactic| first | with_reducible assumption | (apply tb_step; assumption; assumption; walk_at "tb") | (apply tb_cons; assumption; walk_at "tb") | (apply tb_put; assumption; walk_at "tb"))
local macro_rules | `(tactic| walk_at "nm") => `(tactic| first | assumption | (refine List.mem_map.mpr ⟨(_, _), ?_, rfl⟩; assumption))
local macro_rules | `(tactic| walk_at "wk") => `(tactic| first | assumption | exact WtOk.wok (by assumption))
abbrev FnP (K : PySem.W.Frag) (x : Str) (st : Stmt) (kws : List (Str × V)) (f : Addr) (fd : FuncData) (dvs : List V := []) : Prop := FunD K x x (defArgs st) (defBody st) (defScope st) dvs kws f fd
/-- what the top has written -/
structure Txt (K : PySem.W.Frag) (mg : Str → Option Value) (base : Heap) : Type where
  fd_law_bag : FuncData
  F_law_bag : FnP K "_law_bag" s_law_bag [] (He.ga K "_law_bag") fd_law_bag
  g_law_bag : mg "_law_bag" = some (.ref (He.ga K "_law_bag"))
  fd_law_get : FuncData
  F_law_get : FnP K "_law_get" s_law_get [] (He.ga K "_law_get") fd_law_get
  g_law_get : mg "_law_get" = some (.ref (He.ga K "_law_get"))
  fd_law_lean : FuncData
  F_law_lean : FnP K "_law_lean" s_law_lean [] (He.ga K "_law_lean") fd_law_lean
  g_law_lean : mg "_law_lean" = some (.ref (He.ga K "_law_lean"))
  fd_law_tree : FuncData
  F_law_tree : FnP K "_law_tree" s_law_tree [] (He.ga K "_law_tree") fd_law_tree
  g_law_tree : mg "_law_tree" = some (.ref (He.ga K "_law_tree"))
  fd_law_gcd : FuncData
  F_law_gcd : FnP K "_law_gcd" s_law_gcd [] (He.ga K "_law_gcd") fd_law_gcd
  g_law_gcd : mg "_law_gcd" = some (.ref (He.ga K "_law_gcd"))
  fd_law_part : FuncData
  F_law_part : FnP K "_law_part" s_law_part [] (He.ga K "_law_part") fd_law_part
  g_law_part : mg "_law_part" = some (.ref (He.ga K "_law_part"))
  fd_law_plus : FuncData
  F_law_plus : FnP K "_law_plus" s_law_plus [] (He.ga K "_law_plus") fd_law_plus
  g_law_plus : mg "_law_plus" = some (.ref (He.ga K "_law_plus"))
  fd_law_times : FuncData
  F_law_times : FnP K "_law_times" s_law_times [] (He.ga K "_law_times") fd_law_times
  g_law_times : mg "_law_times" = some (.ref (He.ga K "_law_times"))
  fd_law_split : FuncData
  F_law_split : FnP K "_law_split" s_law_split [] (He.ga K "_law_split") fd_law_split
  g_law_split : mg "_law_split" = some (.ref (He.ga K "_law_split"))
  fd_law_halves : FuncData
  F_law_halves : FnP K "_law_halves" s_law_halves [] (He.ga K "_law_halves") fd_law_halves
  g_law_halves : mg "_law_halves" = some (.ref (He.ga K "_law_halves"))
  fd_law_many_in : FuncData
  F_law_many_in : FnP K "_law_many_in" s_law_many_in [] (He.ga K "_law_many_in") fd_law_many_in
  g_law_many_in : mg "_law_many_in" = some (.ref (He.ga K "_law_many_in"))
  fd_law_sliced : FuncData
  F_law_sliced : FnP K "_law_sliced" s_law_sliced [] (He.ga K "_law_sliced") fd_law_sliced
  g_law_sliced : mg "_law_sliced" = some (.ref (He.ga K "_law_sliced"))
  fd_law_less : FuncData
  F_law_less : FnP K "_law_less" s_law_less [] (He.ga K "_law_less") fd_law_less
  g_law_less : mg "_law_less" = some (.ref (He.ga K "_law_less"))
  fd_law_most : FuncData
  F_law_most : FnP K "_law_most" s_law_most [] (He.ga K "_law_most") fd_law_most
  g_law_most : mg "_law_most" = some (.ref (He.ga K "_law_most"))
  fd_law_pick : FuncData
  F_law_pick : FnP K "_law_pick" s_law_pick [] (He.ga K "_law_pick") fd_law_pick
  g_law_pick : mg "_law_pick" = some (.ref (He.ga K "_law_pick"))
  fd_law_bent_tuple : FuncData
  F_law_bent_tuple : FnP K "_law_bent_tuple" s_law_bent_tuple [] (He.ga K "_law_bent_tuple") fd_law_bent_tuple
  g_law_bent_tuple : mg "_law_bent_tuple" = some (.ref (He.ga K "_law_bent_tuple"))
  fd_law_small_box : FuncData
  F_law_small_box : FnP K "_law_small_box" s_law_small_box [] (He.ga K "_law_small_box") fd_law_small_box
  g_law_small_box : mg "_law_small_box" = some (.ref (He.ga K "_law_small_box"))
  fd_law_far : FuncData
  F_law_far : FnP K "_law_far" s_law_far [] (He.ga K "_law_far") fd_law_far
  g_law_far : mg "_law_far" = some (.ref (He.ga K "_law_far"))
  fd_law_number : FuncData
  F_law_number : FnP K "_law_number" s_law_number [] (He.ga K "_law_number") fd_law_number
  g_law_number : mg "_law_number" = some (.ref (He.ga K "_law_number"))
  fd_law_some_part : FuncData
  F_law_some_part : FnP K "_law_some_part" s_law_some_part [] (He.ga K "_law_some_part") fd_law_some_part
  g_law_some_part : mg "_law_some_part" = some (.ref (He.ga K "_law_some_part"))
  fd_law_above : FuncData
  F_law_above : FnP K "_law_above" s_law_above [] (He.ga K "_law_above") fd_law_above
  g_law_above : mg "_law_above" = some (.ref (He.ga K "_law_above"))
  fd_law_box : FuncData
  F_law_box : FnP K "_law_box" s_law_box [] (He.ga K "_law_box") fd_law_box
  g_law_box : mg "_law_box" = some (.ref (He.ga K "_law_box"))
  fd_law_weight : FuncData
  F_law_weight : FnP K "_law_weight" s_law_weight [] (He.ga K "_law_weight") fd_law_weight
  g_law_weight : mg "_law_weight" = some (.ref (He.ga K "_law_weight"))
  fd_law_weights : FuncData
  F_law_weights : FnP K "_law_weights" s_law_weights [] (He.ga K "_law_weights") fd_law_weights
  g_law_weights : mg "_law_weights" = some (.ref (He.ga K "_law_weights"))
  fd_law_same : FuncData
  F_law_same : FnP K "_law_same" s_law_same [] (He.ga K "_law_same") fd_law_same
  g_law_same : mg "_law_same" = some (.ref (He.ga K "_law_same"))
  fd_law_is_tree : FuncData
  F_law_is_tree : FnP K "_law_is_tree" s_law_is_tree [] (He.ga K "_law_is_tree") fd_law_is_tree
  g_law_is_tree : mg "_law_is_tree" = some (.ref (He.ga K "_law_is_tree"))
  fd_law_ask : FuncData
  F_law_ask : FnP K "_law_ask" s_law_ask [] (He.ga K "_law_ask") fd_law_ask
  g_law_ask : mg "_law_ask" = some (.ref (He.ga K "_law_ask"))
  fd_law_why : FuncData
  F_law_why : FnP K "_law_why" s_law_why [] (He.ga K "_law_why") fd_law_why
  g_law_why : mg "_law_why" = some (.ref (He.ga K "_law_why"))
  fd_law_over : FuncData
  F_law_over : FnP K "_law_over" s_law_over [] (He.ga K "_law_over") fd_law_over
  g_law_over : mg "_law_over" = some (.ref (He.ga K "_law_over"))
  fd_law_shape : FuncData
  F_law_shape : FnP K "_law_shape" s_law_shape [] (He.ga K "_law_shape") fd_law_shape
  g_law_shape : mg "_law_shape" = some (.ref (He.ga K "_law_shape"))
  fd_is_whole : FuncData
  F_is_whole : FnP K "is_whole" s_is_whole [] (He.ga K "is_whole") fd_is_whole
  g_is_whole : mg "is_whole" = some (.ref (He.ga K "is_whole"))
  fd_common : FuncData
  F_common : FnP K "common" s_common [] (He.ga K "common") fd_common
  g_common : mg "common" = some (.ref (He.ga K "common"))
  fd_is_part : FuncData
  F_is_part : FnP K "is_part" s_is_part [] (He.ga K "is_part") fd_is_part
  g_is_part : mg "is_part" = some (.ref (He.ga K "is_part"))
  fd_is_box : FuncData
  F_is_box : FnP K "is_box" s_is_box [] (He.ga K "is_box") fd_is_box
  g_is_box : mg "is_box" = some (.ref (He.ga K "is_box"))
  fd_need_box : FuncData
  F_need_box : FnP K "need_box" s_need_box [] (He.ga K "need_box") fd_need_box
  g_need_box : mg "need_box" = some (.ref (He.ga K "need_box"))
  fd_are_weights : FuncData
  F_are_weights : FnP K "are_weights" s_are_weights [] (He.ga K "are_weights") fd_are_weights
  g_are_weights : mg "are_weights" = some (.ref (He.ga K "are_weights"))
  fd_need_weights : FuncData
  F_need_weights : FnP K "need_weights" s_need_weights [] (He.ga K "need_weights") fd_need_weights
  g_need_weights : mg "need_weights" = some (.ref (He.ga K "need_weights"))
  fd_need_few : FuncData
  F_need_few : FnP K "need_few" s_need_few [] (He.ga K "need_few") fd_need_few
  g_need_few : mg "need_few" = some (.ref (He.ga K "need_few"))
  fd_things_in : FuncData
  F_things_in : FnP K "things_in" s_things_in [] (He.ga K "things_in") fd_things_in
  g_things_in : mg "things_in" = some (.ref (He.ga K "things_in"))
  fd_need_tree : FuncData
  F_need_tree : FnP K "need_tree" s_need_tree [] (He.ga K "need_tree") fd_need_tree
  g_need_tree : mg "need_tree" = some (.ref (He.ga K "need_tree"))
  fd_less : FuncData
  F_less : FnP K "less" s_less [] (He.ga K "less") fd_less
  g_less : mg "less" = some (.ref (He.ga K "less"))
  fd_greatest : FuncData
  F_greatest : FnP K "greatest" s_greatest [] (He.ga K "greatest") fd_greatest
  g_greatest : mg "greatest" = some (.ref (He.ga K "greatest"))
  fd_part : FuncData
  F_part : FnP K "part" s_part [] (He.ga K "part") fd_part
  g_part : mg "part" = some (.ref (He.ga K "part"))
  fd_over : FuncData
  F_over : FnP K "over" s_over [] (He.ga K "over") fd_over
  g_over : mg "over" = some (.ref (He.ga K "over"))
  fd_shape_by : FuncData
  F_shape_by : FnP K "shape_by" s_shape_by [] (He.ga K "shape_by") fd_shape_by
  g_shape_by : mg "shape_by" = some (.ref (He.ga K "shape_by"))
  fd_times : FuncData
  F_times : FnP K "times" s_times [] (He.ga K "times") fd_times
  g_times : mg "times" = some (.ref (He.ga K "times"))
  fd_plus : FuncData
  F_plus : FnP K "plus" s_plus [] (He.ga K "plus") fd_plus
  g_plus : mg "plus" = some (.ref (He.ga K "plus"))
  fd_split_by : FuncData
  F_split_by : FnP K "split_by" s_split_by [] (He.ga K "split_by") fd_split_by
  g_split_by : mg "split_by" = some (.ref (He.ga K "split_by"))
  fd_two_by : FuncData
  F_two_by : FnP K "two_by" s_two_by [] (He.ga K "two_by") fd_two_by
  g_two_by : mg "two_by" = some (.ref (He.ga K "two_by"))
  fd_sliced_by : FuncData
  F_sliced_by : FnP K "sliced_by" s_sliced_by [] (He.ga K "sliced_by") fd_sliced_by
  g_sliced_by : mg "sliced_by" = some (.ref (He.ga K "sliced_by"))
  fd_slices_worst : FuncData
  F_slices_worst : FnP K "slices_worst" s_slices_worst [] (He.ga K "slices_worst") fd_slices_worst
  g_slices_worst : mg "slices_worst" = some (.ref (He.ga K "slices_worst"))
  fd_sliced : FuncData
  F_sliced : FnP K "sliced" s_sliced [] (He.ga K "sliced") fd_sliced
  g_sliced : mg "sliced" = some (.ref (He.ga K "sliced"))
  fd_best_tree : FuncData
  F_best_tree : FnP K "best_tree" s_best_tree [] (He.ga K "best_tree") fd_best_tree
  g_best_tree : mg "best_tree" = some (.ref (He.ga K "best_tree"))
  fd_best_slices : FuncData
  F_best_slices : FnP K "best_slices" s_best_slices [] (He.ga K "best_slices") fd_best_slices
  g_best_slices : mg "best_slices" = some (.ref (He.ga K "best_slices"))
  fd_need_bound : FuncData
  F_need_bound : FnP K "need_bound" s_need_bound [] (He.ga K "need_bound") fd_need_bound
  g_need_bound : mg "need_bound" = some (.ref (He.ga K "need_bound"))
  fd_paper_by : FuncData
  F_paper_by : FnP K "paper_by" s_paper_by [] (He.ga K "paper_by") fd_paper_by
  g_paper_by : mg "paper_by" = some (.ref (He.ga K "paper_by"))
  fd_refuted : FuncData
  F_refuted : FnP K "refuted" s_refuted [] (He.ga K "refuted") fd_refuted
  g_refuted : mg "refuted" = some (.ref (He.ga K "refuted"))
  fd_is_refuted : FuncData
  F_is_refuted : FnP K "is_refuted" s_is_refuted [] (He.ga K "is_refuted") fd_is_refuted
  g_is_refuted : mg "is_refuted" = some (.ref (He.ga K "is_refuted"))
  fd_refutes : FuncData
  F_refutes : FnP K "refutes" s_refutes [] (He.ga K "refutes") fd_refutes
  g_refutes : mg "refutes" = some (.ref (He.ga K "refutes"))
  fd_law : FuncData
  F_law : FnP K "law" s_law [] (He.ga K "law") fd_law
  g_law : mg "law" = some (.ref (He.ga K "law"))
  n_abs : mg "abs" = none
  n_all : mg "all" = none
  n_any : mg "any" = none
  n_bool : mg "bool" = none
  n_dict : mg "dict" = none
  n_int : mg "int" = none
  n_isinstance : mg "isinstance" = none
  n_len : mg "len" = none
  n_list : mg "list" = none
  n_range : mg "range" = none
  n_str : mg "str" = none
  n_sum : mg "sum" = none
  n_tuple : mg "tuple" = none
  n_zip : mg "zip" = none
  c_DOWN : ∃ t, mg "DOWN" = some (.str "down" t)
  c_MOST_CHILDREN : ∃ t, mg "MOST_CHILDREN" = some (.int 12 t)
  c_MOST_REFUTED : ∃ t, mg "MOST_REFUTED" = some (.int 5 t)
  c_MOST_SLICED : ∃ t, mg "MOST_SLICED" = some (.int 6 t)
  c_MOST_WEIGHT : ∃ t, mg "MOST_WEIGHT" = some (.int 400000 t)
  g_CutError : mg "CutError" = some (.ref (He.ga K "CutError"))
  g_Missing : mg "Missing" = some (.ref (He.ga K "Missing"))
  g_NothingLeft : mg "NothingLeft" = some (.ref (He.ga K "NothingLeft"))
  g_BadPart : mg "BadPart" = some (.ref (He.ga K "BadPart"))
  g_BadBox : mg "BadBox" = some (.ref (He.ga K "BadBox"))
  g_BadWeight : mg "BadWeight" = some (.ref (He.ga K "BadWeight"))
  g_BadSizes : mg "BadSizes" = some (.ref (He.ga K "BadSizes"))
  g_BadBound : mg "BadBound" = some (.ref (He.ga K "BadBound"))
  x_CutError : XClass K "CutError"
  fd_i_CutError : FuncData
  F_i_CutError : FunD K "__init__" "CutError.__init__" (defArgs si_CutError) (defBody si_CutError) (defScope si_CutError) [] [] (iniA K "CutError") fd_i_CutError
  x_BadPart : XClass K "BadPart"
  fd_i_BadPart : FuncData
  F_i_BadPart : FunD K "__init__" "BadPart.__init__" (defArgs si_BadPart) (defBody si_BadPart) (defScope si_BadPart) [] [] (iniA K "BadPart") fd_i_BadPart
  x_BadBox : XClass K "BadBox"
  fd_i_BadBox : FuncData
  F_i_BadBox : FunD K "__init__" "BadBox.__init__" (defArgs si_BadBox) (defBody si_BadBox) (defScope si_BadBox) [] [] (iniA K "BadBox") fd_i_BadBox
  x_BadWeight : XClass K "BadWeight"
  fd_i_BadWeight : FuncData
  F_i_BadWeight : FunD K "__init__" "BadWeight.__init__" (defArgs si_BadWeight) (defBody si_BadWeight) (defScope si_BadWeight) [] [] (iniA K "BadWeight") fd_i_BadWeight
  x_BadSizes : XClass K "BadSizes"
  fd_i_BadSizes : FuncData
  F_i_BadSizes : FunD K "__init__" "BadSizes.__init__" (defArgs si_BadSizes) (defBody si_BadSizes) (defScope si_BadSizes) [] [] (iniA K "BadSizes") fd_i_BadSizes
  x_BadBound : XClass K "BadBound"
  fd_i_BadBound : FuncData
  F_i_BadBound : FunD K "__init__" "BadBound.__init__" (defArgs si_BadBound) (defBody si_BadBound) (defScope si_BadBound) [] [] (iniA K "BadBound") fd_i_BadBound
  n_ValueError : mg "ValueError" = none
  xcatch : CatchOk K [.ref (He.ga K "CutError"), .ref (He.ga K "Missing"), .ref (He.ga K "NothingLeft")] exL
  g_SIDES : mg "SIDES" = some (.ref (He.ga K "SIDES"))
  k_SIDES : He.tupB K "SIDES" [.str "down", .str "across"] = true
  cd_law : fd_law.code = .ref (He.cT K ("law", none)).1
  tb_law : LamX.TabB base mg (He.cT K ("law", none)).1 (tabA K "law")
theorem b_i_CutError {K : PySem.W.Frag} {mg : Str → Option Value} {base : Heap} (T : Txt K mg base) : Binds K T.fd_i_CutError ["self", "called"] [] := FunD.bindsN T.F_i_CutError fun _ _ _ _ _ _ us hl => match us, hl with | [_, _], _ => rfl
theorem sc_i_CutError : FnScope ["self", "called"] ["self", "called"] (defScope si_CutError) := ⟨rfl, rfl, rfl, by decide +kernel, rfl, by decide +kernel, by decide +kernel⟩
theorem ok_i_CutError {P : Program} {w : World} {K : PySem.W.Frag} {mg : Str → Option Value} {base : Heap} (T : Txt K mg base) : FnOk P w K mg base (L2.CX P w) 1 (iniA K "CutError") T.fd_i_CutError ["self", "called"] (spX K 1 fun ws => [("called", ws.getD 0 .non)]) := FunD.ok T.F_i_CutError sc_i_CutError spX_len fun cdv A outer s H vs Q E hr h => ⟨_, pss_cons (ps_expr (pe_veinit rfl T.n_ValueError (vV K) (pa_cons (pe_var (i := 0) rfl (.inl rfl) (by decide) (by decide)) (pa_cons (pe_var (i := 1) rfl (.inl rfl) (by decide) (by decide)) pa_nil)))) (pss_one (ps_ost (pe_var (i := 0) rfl (.inl rfl) (by decide) (by decide)) (pe_var (i := 1) rfl (.inl rfl) (by decide) (by decide)))), base_read h⟩
theorem b_i_BadPart {K : PySem.W.Frag} {mg : Str → Option Value} {base : Heap} (T : Txt K mg base) : Binds K T.fd_i_BadPart ["self"] [] := FunD.bindsN T.F_i_BadPart fun _ _ _ _ _ _ us hl => match us, hl with | [_], _ => rfl
theorem sc_i_BadPart : FnScope ["self"] ["self"] (defScope si_BadPart) := ⟨rfl, rfl, rfl, by decide +kernel, rfl, by decide +kernel, by decide +kernel⟩
theorem ok_i_BadPart {P : Program} {w : World} {K : PySem.W.Frag} {mg : Str → Option Value} {base : Heap} (T : Txt K mg base) : FnOk P w K mg base (L2.CX P w) 2 (iniA K "BadPart") T.fd_i_BadPart ["self"] (spX K 0 (g0V "BadPart")) := FunD.ok T.F_i_BadPart sc_i_BadPart spX_len fun cdv A outer s H vs Q E hr h => ⟨_, pss_one (ps_expr (pe_cfun (ok_i_CutError T) hr rfl T.g_CutError T.x_CutError.rd T.x_CutError.vl T.F_i_CutError.kp (b_i_CutError T) .nil noOut (pa_cons (pe_var (i := 0) rfl (.inl rfl) (by decide) (by decide)) (pa_cons pe_str pa_nil)))), over_read h⟩
theorem b_i_BadBox {K : PySem.W.Frag} {mg : Str → Option Value} {base : Heap} (T : Txt K mg base) : Binds K T.fd_i_BadBox ["self"] [] := FunD.bindsN T.F_i_BadBox fun _ _ _ _ _ _ us hl => match us, hl with | [_], _ => rfl
theorem sc_i_BadBox : FnScope ["self"] ["self"] (defScope si_BadBox) := ⟨rfl, rfl, rfl, by decide +kernel, rfl, by decide +kernel, by decide +kernel⟩
theorem ok_i_BadBox {P : Program} {w : World} {K : PySem.W.Frag} {mg : Str → Option Value} {base : Heap} (T : Txt K mg base) : FnOk P w K mg base (L2.CX P w) 2 (iniA K "BadBox") T.fd_i_BadBox ["self"] (spX K 0 (g0V "BadBox")) := FunD.ok T.F_i_BadBox sc_i_BadBox spX_len fun cdv A outer s H vs Q E hr h => ⟨_, pss_one (ps_expr (pe_cfun (ok_i_CutError T) hr rfl T.g_CutError T.x_CutError.rd T.x_CutError.vl T.F_i_CutError.kp (b_i_CutError T) .nil noOut (pa_cons (pe_var (i := 0) rfl (.inl rfl) (by decide) (by decide)) (pa_cons pe_str pa_nil)))), over_read h⟩
theorem b_i_BadWeight {K : PySem.W.Frag} {mg : Str → Option Value} {base : Heap} (T : Txt K mg base) : Binds K T.fd_i_BadWeight ["self"] [] := FunD.bindsN T.F_i_BadWeight fun _ _ _ _ _ _ us hl => match us, hl with | [_], _ => rfl
theorem sc_i_BadWeight : FnScope ["self"] ["self"] (defScope si_BadWeight) := ⟨rfl, rfl, rfl, by decide +kernel, rfl, by decide +kernel, by decide +kernel⟩
theorem ok_i_BadWeight {P : Program} {w : World} {K : PySem.W.Frag} {mg : Str → Option Value} {base : Heap} (T : Txt K mg base) : FnOk P w K mg base (L2.CX P w) 2 (iniA K "BadWeight") T.fd_i_BadWeight ["self"] (spX K 0 (g0V "BadWeight")) := FunD.ok T.F_i_BadWeight sc_i_BadWeight spX_len fun cdv A outer s H vs Q E hr h => ⟨_, pss_one (ps_expr (pe_cfun (ok_i_CutError T) hr rfl T.g_CutError T.x_CutError.rd T.x_CutError.vl T.F_i_CutError.kp (b_i_CutError T) .nil noOut (pa_cons (pe_var (i := 0) rfl (.inl rfl) (by decide) (by decide)) (pa_cons pe_str pa_nil)))), over_read h⟩
theorem b_i_BadSizes {K : PySem.W.Frag} {mg : Str → Option Value} {base : Heap} (T : Txt K mg base) : Binds K T.fd_i_BadSizes ["self"] [] := FunD.bindsN T.F_i_BadSizes fun _ _ _ _ _ _ us hl => match us, hl with | [_], _ => rfl
theorem sc_i_BadSizes : FnScope ["self"] ["self"] (defScope si_BadSizes) := ⟨rfl, rfl, rfl, by decide +kernel, rfl, by decide +kernel, by decide +kernel⟩
theorem ok_i_BadSizes {P : Program} {w : World} {K : PySem.W.Frag} {mg : Str → Option Value} {base : Heap} (T : Txt K mg base) : FnOk P w K mg base (L2.CX P w) 2 (iniA K "BadSizes") T.fd_i_BadSizes ["self"] (spX K 0 (g0V "BadSizes")) := FunD.ok T.F_i_BadSizes sc_i_BadSizes spX_len fun cdv A outer s H vs Q E hr h => ⟨_, pss_one (ps_expr (pe_cfun (ok_i_CutError T) hr rfl T.g_CutError T.x_CutError.rd T.x_CutError.vl T.F_i_CutError.kp (b_i_CutError T) .nil noOut (pa_cons (pe_var (i := 0) rfl (.inl rfl) (by decide) (by decide)) (pa_cons pe_str pa_nil)))), over_read h⟩
theorem b_i_BadBound {K : PySem.W.Frag} {mg : Str → Option Value} {base : Heap} (T : Txt K mg base) : Binds K T.fd_i_BadBound ["self"] [] := FunD.bindsN T.F_i_BadBound fun _ _ _ _ _ _ us hl => match us, hl with | [_], _ => rfl
theorem sc_i_BadBound : FnScope ["self"] ["self"] (defScope si_BadBound) := ⟨rfl, rfl, rfl, by decide +kernel, rfl, by decide +kernel, by decide +kernel⟩
theorem ok_i_BadBound {P : Program} {w : World} {K : PySem.W.Frag} {mg : Str → Option Value} {base : Heap} (T : Txt K mg base) : FnOk P w K mg base (L2.CX P w) 2 (iniA K "BadBound") T.fd_i_BadBound ["self"] (spX K 0 (g0V "BadBound")) := FunD.ok T.F_i_BadBound sc_i_BadBound spX_len fun cdv A outer s H vs Q E hr h => ⟨_, pss_one (ps_expr (pe_cfun (ok_i_CutError T) hr rfl T.g_CutError T.x_CutError.rd T.x_CutError.vl T.F_i_CutError.kp (b_i_CutError T) .nil noOut (pa_cons (pe_var (i := 0) rfl (.inl rfl) (by decide) (by decide)) (pa_cons pe_str pa_nil)))), over_read h⟩
theorem b_law_bag {K : PySem.W.Frag} {mg : Str → Option Value} {base : Heap} (T : Txt K mg base) : Binds K T.fd_law_bag ["_law_script"] [] := FunD.bindsN T.F_law_bag fun _ _ _ _ _ _ us hl => match us, hl with | [_], _ => rfl
theorem b_law_get {K : PySem.W.Frag} {mg : Str → Option Value} {base : Heap} (T : Txt K mg base) : Binds K T.fd_law_get ["_law_bag_here", "_law_most_here"] [] := FunD.bindsN T.F_law_get fun _ _ _ _ _ _ us hl => match us, hl with | [_, _], _ => rfl
theorem b_law_lean {K : PySem.W.Frag} {mg : Str → Option Value} {base : Heap} (T : Txt K mg base) : Binds K T.fd_law_lean ["_law_bag_here"] [] := FunD.bindsN T.F_law_lean fun _ _ _ _ _ _ us hl => match us, hl with | [_], _ => rfl
theorem b_law_tree {K : PySem.W.Frag} {mg : Str → Option Value} {base : Heap} (T : Txt K mg base) : Binds K T.fd_law_tree ["_law_bag_here", "_law_many"] [] := FunD.bindsN T.F_law_tree fun _ _ _ _ _ _ us hl => match us, hl with | [_, _], _ => rfl
theorem b_law_gcd {K : PySem.W.Frag} {mg : Str → Option Value} {base : Heap} (T : Txt K mg base) : Binds K T.fd_law_gcd ["_law_one", "_law_other"] [] := FunD.bindsN T.F_law_gcd fun _ _ _ _ _ _ us hl => match us, hl with | [_, _], _ => rfl
theorem b_law_part {K : PySem.W.Frag} {mg : Str → Option Value} {base : Heap} (T : Txt K mg base) : Binds K T.fd_law_part ["_law_above_here", "_law_below"] [] := FunD.bindsN T.F_law_part fun _ _ _ _ _ _ us hl => match us, hl with | [_, _], _ => rfl
theorem b_law_plus {K : PySem.W.Frag} {mg : Str → Option Value} {base : Heap} (T : Txt K mg base) : Binds K T.fd_law_plus ["_law_one", "_law_other"] [] := FunD.bindsN T.F_law_plus fun _ _ _ _ _ _ us hl => match us, hl with | [_, _], _ => rfl
theorem b_law_times {K : PySem.W.Frag} {mg : Str → Option Value} {base : Heap} (T : Txt K mg base) : Binds K T.fd_law_times ["_law_one", "_law_other"] [] := FunD.bindsN T.F_law_times fun _ _ _ _ _ _ us hl => match us, hl with | [_, _], _ => rfl
theorem b_law_split {K : PySem.W.Frag} {mg : Str → Option Value} {base : Heap} (T : Txt K mg base) : Binds K T.fd_law_split ["_law_box_here", "_law_weights_here", "_law_lean_here"] [] := FunD.bindsN T.F_law_split fun _ _ _ _ _ _ us hl => match us, hl with | [_, _, _], _ => rfl
theorem b_law_halves {K : PySem.W.Frag} {mg : Str → Option Value} {base : Heap} (T : Txt K mg base) : Binds K T.fd_law_halves ["_law_box_here", "_law_weights_here", "_law_at", "_law_lean_here"] [] := FunD.bindsN T.F_law_halves fun _ _ _ _ _ _ us hl => match us, hl with | [_, _, _, _], _ => rfl
theorem b_law_many_in {K : PySem.W.Frag} {mg : Str → Option Value} {base : Heap} (T : Txt K mg base) : Binds K T.fd_law_many_in ["_law_tree_here"] [] := FunD.bindsN T.F_law_many_in fun _ _ _ _ _ _ us hl => match us, hl with | [_], _ => rfl
theorem b_law_sliced {K : PySem.W.Frag} {mg : Str → Option Value} {base : Heap} (T : Txt K mg base) : Binds K T.fd_law_sliced ["_law_box_here", "_law_weights_here", "_law_tree_here"] [] := FunD.bindsN T.F_law_sliced fun _ _ _ _ _ _ us hl => match us, hl with | [_, _, _], _ => rfl
theorem b_law_less {K : PySem.W.Frag} {mg : Str → Option Value} {base : Heap} (T : Txt K mg base) : Binds K T.fd_law_less ["_law_one", "_law_other"] [] := FunD.bindsN T.F_law_less fun _ _ _ _ _ _ us hl => match us, hl with | [_, _], _ => rfl
theorem b_law_most {K : PySem.W.Frag} {mg : Str → Option Value} {base : Heap} (T : Txt K mg base) : Binds K T.fd_law_most ["_law_parts"] [] := FunD.bindsN T.F_law_most fun _ _ _ _ _ _ us hl => match us, hl with | [_], _ => rfl
theorem b_law_pick {K : PySem.W.Frag} {mg : Str → Option Value} {base : Heap} (T : Txt K mg base) : Binds K T.fd_law_pick ["_law_bag_here", "_law_some"] [] := FunD.bindsN T.F_law_pick fun _ _ _ _ _ _ us hl => match us, hl with | [_, _], _ => rfl
theorem b_law_bent_tuple {K : PySem.W.Frag} {mg : Str → Option Value} {base : Heap} (T : Txt K mg base) : Binds K T.fd_law_bent_tuple ["_law_bag_here", "_law_told", "_law_deep"] [] := FunD.bindsN T.F_law_bent_tuple fun _ _ _ _ _ _ us hl => match us, hl with | [_, _, _], _ => rfl
theorem b_law_small_box {K : PySem.W.Frag} {mg : Str → Option Value} {base : Heap} (T : Txt K mg base) : Binds K T.fd_law_small_box ["_law_bag_here"] [] := FunD.bindsN T.F_law_small_box fun _ _ _ _ _ _ us hl => match us, hl with | [_], _ => rfl
theorem b_law_far {K : PySem.W.Frag} {mg : Str → Option Value} {base : Heap} (T : Txt K mg base) : Binds K T.fd_law_far ["_law_bag_here", "_law_steps"] [] := FunD.bindsN T.F_law_far fun _ _ _ _ _ _ us hl => match us, hl with | [_, _], _ => rfl
theorem b_law_number {K : PySem.W.Frag} {mg : Str → Option Value} {base : Heap} (T : Txt K mg base) : Binds K T.fd_law_number ["_law_bag_here"] [] := FunD.bindsN T.F_law_number fun _ _ _ _ _ _ us hl => match us, hl with | [_], _ => rfl
theorem b_law_some_part {K : PySem.W.Frag} {mg : Str → Option Value} {base : Heap} (T : Txt K mg base) : Binds K T.fd_law_some_part ["_law_bag_here"] [] := FunD.bindsN T.F_law_some_part fun _ _ _ _ _ _ us hl => match us, hl with | [_], _ => rfl
theorem b_law_above {K : PySem.W.Frag} {mg : Str → Option Value} {base : Heap} (T : Txt K mg base) : Binds K T.fd_law_above ["_law_bag_here"] [] := FunD.bindsN T.F_law_above fun _ _ _ _ _ _ us hl => match us, hl with | [_], _ => rfl
theorem b_law_box {K : PySem.W.Frag} {mg : Str → Option Value} {base : Heap} (T : Txt K mg base) : Binds K T.fd_law_box ["_law_bag_here"] [] := FunD.bindsN T.F_law_box fun _ _ _ _ _ _ us hl => match us, hl with | [_], _ => rfl
theorem b_law_weight {K : PySem.W.Frag} {mg : Str → Option Value} {base : Heap} (T : Txt K mg base) : Binds K T.fd_law_weight ["_law_bag_here", "_law_kind"] [] := FunD.bindsN T.F_law_weight fun _ _ _ _ _ _ us hl => match us, hl with | [_, _], _ => rfl
theorem b_law_weights {K : PySem.W.Frag} {mg : Str → Option Value} {base : Heap} (T : Txt K mg base) : Binds K T.fd_law_weights ["_law_bag_here", "_law_most_here"] [] := FunD.bindsN T.F_law_weights fun _ _ _ _ _ _ us hl => match us, hl with | [_, _], _ => rfl
theorem b_law_same {K : PySem.W.Frag} {mg : Str → Option Value} {base : Heap} (T : Txt K mg base) : Binds K T.fd_law_same ["_law_found", "_law_due"] [] := FunD.bindsN T.F_law_same fun _ _ _ _ _ _ us hl => match us, hl with | [_, _], _ => rfl
theorem b_law_is_tree {K : PySem.W.Frag} {mg : Str → Option Value} {base : Heap} (T : Txt K mg base) : Binds K T.fd_law_is_tree ["_law_tree_here", "_law_many"] [] := FunD.bindsN T.F_law_is_tree fun _ _ _ _ _ _ us hl => match us, hl with | [_, _], _ => rfl
theorem b_law_ask {K : PySem.W.Frag} {mg : Str → Option Value} {base : Heap} (T : Txt K mg base) : Binds K T.fd_law_ask ["_law_ask_here"] [] := FunD.bindsN T.F_law_ask fun _ _ _ _ _ _ us hl => match us, hl with | [_], _ => rfl
theorem b_law_why {K : PySem.W.Frag} {mg : Str → Option Value} {base : Heap} (T : Txt K mg base) : Binds K T.fd_law_why ["_law_ask_here"] [] := FunD.bindsN T.F_law_why fun _ _ _ _ _ _ us hl => match us, hl with | [_], _ => rfl
theorem b_law_over {K : PySem.W.Frag} {mg : Str → Option Value} {base : Heap} (T : Txt K mg base) : Binds K T.fd_law_over ["_law_one", "_law_other"] [] := FunD.bindsN T.F_law_over fun _ _ _ _ _ _ us hl => match us, hl with | [_, _], _ => rfl
theorem b_law_shape {K : PySem.W.Frag} {mg : Str → Option Value} {base : Heap} (T : Txt K mg base) : Binds K T.fd_law_shape ["_law_wide", "_law_high"] [] := FunD.bindsN T.F_law_shape fun _ _ _ _ _ _ us hl => match us, hl with | [_, _], _ => rfl
theorem b_is_whole {K : PySem.W.Frag} {mg : Str → Option Value} {base : Heap} (T : Txt K mg base) : Binds K T.fd_is_whole ["thing"] [] := FunD.bindsN T.F_is_whole fun _ _ _ _ _ _ us hl => match us, hl with | [_], _ => rfl
theorem b_common {K : PySem.W.Frag} {mg : Str → Option Value} {base : Heap} (T : Txt K mg base) : Binds K T.fd_common ["one", "other"] [] := FunD.bindsN T.F_common fun _ _ _ _ _ _ us hl => match us, hl with | [_, _], _ => rfl
theorem b_is_part {K : PySem.W.Frag} {mg : Str → Option Value} {base : Heap} (T : Txt K mg base) : Binds K T.fd_is_part ["thing"] [] := FunD.bindsN T.F_is_part fun _ _ _ _ _ _ us hl => match us, hl with | [_], _ => rfl
theorem b_is_box {K : PySem.W.Frag} {mg : Str → Option Value} {base : Heap} (T : Txt K mg base) : Binds K T.fd_is_box ["thing"] [] := FunD.bindsN T.F_is_box fun _ _ _ _ _ _ us hl => match us, hl with | [_], _ => rfl
theorem b_need_box {K : PySem.W.Frag} {mg : Str → Option Value} {base : Heap} (T : Txt K mg base) : Binds K T.fd_need_box ["box"] [] := FunD.bindsN T.F_need_box fun _ _ _ _ _ _ us hl => match us, hl with | [_], _ => rfl
theorem b_are_weights {K : PySem.W.Frag} {mg : Str → Option Value} {base : Heap} (T : Txt K mg base) : Binds K T.fd_are_weights ["thing"] [] := FunD.bindsN T.F_are_weights fun _ _ _ _ _ _ us hl => match us, hl with | [_], _ => rfl
theorem b_need_weights {K : PySem.W.Frag} {mg : Str → Option Value} {base : Heap} (T : Txt K mg base) : Binds K T.fd_need_weights ["weights"] [] := FunD.bindsN T.F_need_weights fun _ _ _ _ _ _ us hl => match us, hl with | [_], _ => rfl
theorem b_need_few {K : PySem.W.Frag} {mg : Str → Option Value} {base : Heap} (T : Txt K mg base) : Binds K T.fd_need_few ["box", "weights", "most"] [] := FunD.bindsN T.F_need_few fun _ _ _ _ _ _ us hl => match us, hl with | [_, _, _], _ => rfl
theorem b_things_in {K : PySem.W.Frag} {mg : Str → Option Value} {base : Heap} (T : Txt K mg base) : Binds K T.fd_things_in ["tree"] [] := FunD.bindsN T.F_things_in fun _ _ _ _ _ _ us hl => match us, hl with | [_], _ => rfl
theorem b_need_tree {K : PySem.W.Frag} {mg : Str → Option Value} {base : Heap} (T : Txt K mg base) : Binds K T.fd_need_tree ["tree", "weights"] [] := FunD.bindsN T.F_need_tree fun _ _ _ _ _ _ us hl => match us, hl with | [_, _], _ => rfl
theorem b_less {K : PySem.W.Frag} {mg : Str → Option Value} {base : Heap} (T : Txt K mg base) : Binds K T.fd_less ["one", "other"] [] := FunD.bindsN T.F_less fun _ _ _ _ _ _ us hl => match us, hl with | [_, _], _ => rfl
theorem b_greatest {K : PySem.W.Frag} {mg : Str → Option Value} {base : Heap} (T : Txt K mg base) : Binds K T.fd_greatest ["parts"] [] := FunD.bindsN T.F_greatest fun _ _ _ _ _ _ us hl => match us, hl with | [_], _ => rfl
theorem b_part {K : PySem.W.Frag} {mg : Str → Option Value} {base : Heap} (T : Txt K mg base) : Binds K T.fd_part ["above", "below"] [] := FunD.bindsN T.F_part fun _ _ _ _ _ _ us hl => match us, hl with | [_, _], _ => rfl
theorem b_over {K : PySem.W.Frag} {mg : Str → Option Value} {base : Heap} (T : Txt K mg base) : Binds K T.fd_over ["one", "other"] [] := FunD.bindsN T.F_over fun _ _ _ _ _ _ us hl => match us, hl with | [_, _], _ => rfl
theorem b_shape_by {K : PySem.W.Frag} {mg : Str → Option Value} {base : Heap} (T : Txt K mg base) : Binds K T.fd_shape_by ["wide", "high"] [] := FunD.bindsN T.F_shape_by fun _ _ _ _ _ _ us hl => match us, hl with | [_, _], _ => rfl
theorem b_times {K : PySem.W.Frag} {mg : Str → Option Value} {base : Heap} (T : Txt K mg base) : Binds K T.fd_times ["one", "other"] [] := FunD.bindsN T.F_times fun _ _ _ _ _ _ us hl => match us, hl with | [_, _], _ => rfl
theorem b_plus {K : PySem.W.Frag} {mg : Str → Option Value} {base : Heap} (T : Txt K mg base) : Binds K T.fd_plus ["one", "other"] [] := FunD.bindsN T.F_plus fun _ _ _ _ _ _ us hl => match us, hl with | [_, _], _ => rfl
theorem b_split_by {K : PySem.W.Frag} {mg : Str → Option Value} {base : Heap} (T : Txt K mg base) : Binds K T.fd_split_by ["box", "weights", "side"] [] := FunD.bindsN T.F_split_by fun _ _ _ _ _ _ us hl => match us, hl with | [_, _, _], _ => rfl
theorem b_two_by {K : PySem.W.Frag} {mg : Str → Option Value} {base : Heap} (T : Txt K mg base) : Binds K T.fd_two_by ["box", "weights", "at", "side"] [] := FunD.bindsN T.F_two_by fun _ _ _ _ _ _ us hl => match us, hl with | [_, _, _, _], _ => rfl
theorem b_sliced_by {K : PySem.W.Frag} {mg : Str → Option Value} {base : Heap} (T : Txt K mg base) : Binds K T.fd_sliced_by ["box", "weights", "tree"] [] := FunD.bindsN T.F_sliced_by fun _ _ _ _ _ _ us hl => match us, hl with | [_, _, _], _ => rfl
theorem b_slices_worst {K : PySem.W.Frag} {mg : Str → Option Value} {base : Heap} (T : Txt K mg base) : Binds K T.fd_slices_worst ["box", "weights", "tree"] [] := FunD.bindsN T.F_slices_worst fun _ _ _ _ _ _ us hl => match us, hl with | [_, _, _], _ => rfl
theorem b_sliced {K : PySem.W.Frag} {mg : Str → Option Value} {base : Heap} (T : Txt K mg base) : Binds K T.fd_sliced ["box", "weights", "tree"] [] := FunD.bindsN T.F_sliced fun _ _ _ _ _ _ us hl => match us, hl with | [_, _, _], _ => rfl
theorem b_best_tree {K : PySem.W.Frag} {mg : Str → Option Value} {base : Heap} (T : Txt K mg base) : Binds K T.fd_best_tree ["box", "weights"] [] := FunD.bindsN T.F_best_tree fun _ _ _ _ _ _ us hl => match us, hl with | [_, _], _ => rfl
theorem b_best_slices {K : PySem.W.Frag} {mg : Str → Option Value} {base : Heap} (T : Txt K mg base) : Binds K T.fd_best_slices ["box", "weights"] [] := FunD.bindsN T.F_best_slices fun _ _ _ _ _ _ us hl => match us, hl with | [_, _], _ => rfl
theorem b_need_bound {K : PySem.W.Frag} {mg : Str → Option Value} {base : Heap} (T : Txt K mg base) : Binds K T.fd_need_bound ["bound"] [] := FunD.bindsN T.F_need_bound fun _ _ _ _ _ _ us hl => match us, hl with | [_], _ => rfl
theorem b_paper_by {K : PySem.W.Frag} {mg : Str → Option Value} {base : Heap} (T : Txt K mg base) : Binds K T.fd_paper_by ["box", "weights", "bound"] [] := FunD.bindsN T.F_paper_by fun _ _ _ _ _ _ us hl => match us, hl with | [_, _, _], _ => rfl
theorem b_refuted {K : PySem.W.Frag} {mg : Str → Option Value} {base : Heap} (T : Txt K mg base) : Binds K T.fd_refuted ["box", "weights", "bound"] [] := FunD.bindsN T.F_refuted fun _ _ _ _ _ _ us hl => match us, hl with | [_, _, _], _ => rfl
theorem b_is_refuted {K : PySem.W.Frag} {mg : Str → Option Value} {base : Heap} (T : Txt K mg base) : Binds K T.fd_is_refuted ["box", "weights", "bound", "paper"] [] := FunD.bindsN T.F_is_refuted fun _ _ _ _ _ _ us hl => match us, hl with | [_, _, _, _], _ => rfl
theorem b_refutes {K : PySem.W.Frag} {mg : Str → Option Value} {base : Heap} (T : Txt K mg base) : Binds K T.fd_refutes ["box", "weights", "bound", "paper"] [] := FunD.bindsN T.F_refutes fun _ _ _ _ _ _ us hl => match us, hl with | [_, _, _, _], _ => rfl
def sp_law_bag : DSp := fun ds cs P _ => ∃ ns : List Int, ds = [.lst (ns.map D.int)] ∧ ∀ p b, p ∉ adr cs → BagOk b → P (.opq (.ref p)) ((p, b) :: cs)
theorem sc_law_bag : FnScope ["_law_script"] ["_law_script"] (defScope s_law_bag) := ⟨rfl, rfl, rfl, by decide +kernel, rfl, by decide +kernel, by decide +kernel⟩
theorem ok_law_bag {P : Program} {w : World} {K : PySem.W.Frag} {mg : Str → Option Value} {base : Heap} (T : Txt K mg base) : FnOk P w K mg base (L2.CX P w) 1 (He.ga K "_law_bag") T.fd_law_bag ["_law_script"] (spL K 1 sp_law_bag) := by
  apply ok_def (k := 0) T.F_law_bag sc_law_bag
  case hb =>
    intro cdv A outer s H E hr
    exact (dss_one (ds_ret (d_lstM (da_cons (d_callTy call_list_of adq_list rfl T.n_list (by decide +kernel) (da_cons (d_slice sl_list adq_slL (d_var 0) do_none (do_some d_int)) da_nil)) (da_cons d_int (da_cons d_int (da_cons (d_add d_int (d_callB call_len_seq adq_len rfl T.n_len (by decide +kernel) (da_cons (d_slice sl_list adq_slL (d_var 0) do_none (do_some d_int)) da_nil))) (da_cons d_int da_nil))))))))
  case hsp =>
    skip
    rintro ds cs Q Z ⟨ns, rfl, h⟩ _
    show ∀ p, p ∉ adr cs → Q (.opq (.ref p)) ((p, .lst [.lst (DL.cutD (ns.map D.int) none (some 63)), .int 0, .int 0, .int (9103 + ((DL.cutD (ns.map D.int) none (some 63)).length : Int)), .int 0]) :: cs)
    intro p hp
    have e : DL.cutD (ns.map D.int) none (some 63) = (ns.take (min 63 ns.length)).map D.int := by
      unfold DL.cutD
      simp [HT.sIx, List.map_take]
    have l : (DL.cutD (ns.map D.int) none (some 63)).length ≤ 63 := by
      rw [e, List.length_map, List.length_take]; omega
    refine h p _ hp ⟨ns.take (min 63 ns.length), 0, 0, 9103 + ((DL.cutD (ns.map D.int) none (some 63)).length : Int), 0, by rw [← e] <;> rfl, by omega, by omega, by omega⟩
def sp_law_get : DSp := fun ds cs P _ => ∃ (p : Addr) (most : Int), ds = [.opq (.ref p), .int most] ∧ 0 < most ∧ most < 2 ^ 60 ∧ BagIn p cs ∧ ∀ r cs', 0 ≤ r → r < most → BagStep p cs cs' → P (.int r) cs'
theorem r_law_get {p : Addr} {m : Int} {cs : Cs} {P : DP} {Z : XZ} (m0 : 0 < m) (m1 : m < 2 ^ 60) (hb : BagIn p cs) (h : ∀ r cs', 0 ≤ r → r < m → BagStep p cs cs' → P (.int r) cs') : sp_law_get [.opq (.ref p), .int m] cs P Z := ⟨p, m, rfl, m0, m1, hb, h⟩
theorem sc_law_get : FnScope ["_law_bag_here", "_law_most_here", "_law_cell", "_law_got", "_law_before"] ["_law_bag_here", "_law_most_here"] (defScope s_law_get) := ⟨rfl, rfl, rfl, by decide +kernel, rfl, by decide +kernel, by decide +kernel⟩
theorem ok_law_get {P : Program} {w : World} {K : PySem.W.Frag} {mg : Str → Option Value} {base : Heap} (T : Txt K mg base) : FnOk P w K mg base (L2.CX P w) 1 (He.ga K "_law_get") T.fd_law_get ["_law_bag_here", "_law_most_here"] (spL K 2 sp_law_get) := by
  apply ok_def (k := 0) T.F_law_get sc_law_get
  case hb =>
    intro cdv A outer s H E hr
    exact (dss_cons (ds_if (dt_w (dw_and (dt_lt (d_ixM (d_var 0) d_int) (d_var 1)) (dw_and1 (dt_lt (d_ixM (d_var 0) d_int) (d_callB call_len_seq adq_len rfl T.n_len (by decide +kernel) (da_cons (d_ixM (d_var 0) d_int) da_nil)))))) (dss_cons (ds_set (i := 2) sc_law_get.nd rfl (Or.inl rfl) (d_sub_ix (d_ixM (d_var 0) d_int) (d_ixM (d_var 0) d_int)))
      (dss_cons (ds_setix (d_add (d_ixM (d_var 0) d_int) d_int) (d_var 0) d_int)
      (dss_cons (ds_setix (d_if (dt_ge (d_var 2) (d_pow d_int d_int)) (d_sub (d_var 2) (d_pow d_int d_int)) d_int) (d_var 0) d_int)
      (dss_one (ds_setix (d_mod (d_add (d_add (d_mul (d_ixM (d_var 0) d_int) d_int) (d_mul (d_var 2) d_int)) (d_mul d_int (d_ixM (d_var 0) d_int))) d_int) (d_var 0) d_int))))) dss_nil)
      (dss_cons (ds_if (dt_ge (d_ixM (d_var 0) d_int) (d_var 1)) (dss_cons (ds_set (i := 3) sc_law_get.nd rfl (Or.inl rfl) (d_mod (d_ixM (d_var 0) d_int) (d_var 1)))
      (dss_cons (ds_setix (d_fdiv (d_ixM (d_var 0) d_int) (d_var 1)) (d_var 0) d_int)
      (dss_one (ds_ret (d_var 3))))) dss_nil)
      (dss_cons (ds_setix (d_add (d_ixM (d_var 0) d_int) d_int) (d_var 0) d_int)
      (dss_cons (ds_set (i := 4) sc_law_get.nd rfl (Or.inl rfl) (d_ixM (d_var 0) d_int))
      (dss_cons (ds_setix (d_mod (d_add (d_add (d_add (d_mul (d_var 4) (d_var 4)) (d_mul d_int (d_var 4))) (d_mul d_int (d_ixM (d_var 0) d_int))) d_int) d_int) (d_var 0) d_int)
      (dss_one (ds_ret (d_mod (d_add (d_fdiv (d_ixM (d_var 0) d_int) d_int) (d_mul (d_fdiv (d_var 4) d_int) d_int)) (d_var 1)))))))))
  case hsp =>
    skip
    rintro ds cs Q Z ⟨p, most, rfl, m0, m1, ⟨b, hl, cells, k, rest, seed, cnt, rfl, h0, h1, h2⟩, hh⟩ _
    have h : ∀ r b, 0 ≤ r → r < most → BagOk b → Q (.int r) (put p b cs) := fun r b x1 x2 x3 => hh r _ x1 x2 ⟨⟨b, look_put hl, x3⟩, b, rfl⟩
    show (_ : WS) (finD Q Z) [some _, some _, none, none, none] cs
    have dv := divOk m0 m1
    refine r_key (N := fun ρ' cs' => ∃ (c : Option D) (k1 : Nat) (rest1 seed1 : Int), ρ' = [some (.opq (.ref p)), some (.int most), c, none, none] ∧ look p cs' = some (.lst [.lst (cells.map D.int), .int (k1 : Int), .int rest1, .int seed1, .int cnt]) ∧ 0 ≤ rest1 ∧ 0 ≤ seed1 ∧ seed1 < 2147483629 ∧ ∀ r b, 0 ≤ r → r < most → BagOk b → Q (.int r) (put p b cs')) ?_ (fun nx key => ?_)
    · rintro ρ' cs' ⟨c, k1, rest1, seed1, rfl, hl', a0, a1, a2, hq⟩
      walk_at "go"
      refine ⟨fun hk => ?_, fun hk => ?_⟩
      · walk_at "go"
        exact hq _ _ (Int.emod_nonneg _ (by omega)) (Int.emod_lt_of_pos _ m0) ⟨cells, k1, rest1 / most, seed1, cnt, rfl, Int.ediv_nonneg a0 (by omega), a1, a2⟩
      · have hs : seed1.natAbs < 2 ^ 64 := by omega
        walk_at "go"
        show Q _ (put p _ (put p _ cs'))
        rw [put_put]
        refine hq _ _ (Int.emod_nonneg _ (by omega)) (Int.emod_lt_of_pos _ m0) ⟨cells, k1, rest1, _, cnt + 1, rfl, a0, Int.emod_nonneg _ (by decide), Int.emod_lt_of_pos _ (by decide)⟩
    · walk_at "go"
      refine ⟨fun hk => ?_, fun hk => ?_⟩
      · walk_at "go"
        refine ⟨fun hk2 => ?_, fun hk2 => ?_⟩
        · have hlen : (k : Int) < (cells.length : Int) := by simpa using decT hk2
          have hat : atD (cells.map D.int) (k : Int) = some (.int (cells[k]'(by omega))) := by
            refine atI_nat ?_
            rw [List.getElem?_map, List.getElem?_eq_getElem (by omega)]
            rfl
          walk_at "go"
          refine r_ixL hat ?_
          generalize cells[k]'(by omega) = cell
          walk_at "go"
          refine ⟨fun hk3 => ?_, fun hk3 => ?_⟩
          · have hc := decT hk3
            walk_at "go"
            refine key _ _ ⟨_, k + 1, _, _, rfl, look_put (look_put (look_put hl)), ?_, Int.emod_nonneg _ (by decide), Int.emod_lt_of_pos _ (by decide), fun r b x1 x2 x3 => ?_⟩
            · show (0 : Int) ≤ cell - 10 ^ 18
              have : (10 : Int) ^ 18 ≤ cell := hc
              omega
            · rw [put_put, put_put, put_put]
              exact h r b x1 x2 x3
          · walk_at "go"
            refine key _ _ ⟨_, k + 1, _, _, rfl, look_put (look_put (look_put hl)), Int.le_refl _, Int.emod_nonneg _ (by decide), Int.emod_lt_of_pos _ (by decide), fun r b x1 x2 x3 => ?_⟩
            rw [put_put, put_put, put_put]
            exact h r b x1 x2 x3
        · walk_at "go"
          exact key _ _ ⟨none, k, rest, seed, rfl, hl, h0, h1, h2, h⟩
      · walk_at "go"
        exact key _ _ ⟨none, k, rest, seed, rfl, hl, h0, h1, h2, h⟩
local macro_rules | `(tactic| walk_at "cl") => `(tactic| (first | ((with_reducible apply r_law_get); (walk_at "in"); (walk_at "in"); (walk_at "bg"))))
def sp_law_lean : DSp := fun ds cs P _ => ∃ p, ds = [.opq (.ref p)] ∧ BagIn p cs ∧ ∀ dn cs', BagStep p cs cs' → P (sideD dn) cs'
theorem r_law_lean {p : Addr} {cs : Cs} {P : DP} {Z : XZ} (hb : BagIn p cs) (h : ∀ dn cs', BagStep p cs cs' → P (sideD dn) cs') : sp_law_lean [.opq (.ref p)] cs P Z := ⟨p, rfl, hb, h⟩
theorem sc_law_lean : FnScope ["_law_bag_here"] ["_law_bag_here"] (defScope s_law_lean) := ⟨rfl, rfl, rfl, by decide +kernel, rfl, by decide +kernel, by decide +kernel⟩
theorem ok_law_lean {P : Program} {w : World} {K : PySem.W.Frag} {mg : Str → Option Value} {base : Heap} (T : Txt K mg base) : FnOk P w K mg base (L2.CX P w) 2 (He.ga K "_law_lean") T.fd_law_lean ["_law_bag_here"] (spL K 1 sp_law_lean) := by
  apply ok_def (k := 1) T.F_law_lean sc_law_lean
  case hb =>
    intro cdv A outer s H E hr
    exact (dss_one (ds_ret (d_sub_ix (d_lst (da_cons d_str (da_cons d_str da_nil))) (d_callN (ok_law_get T) (hr.mono (by decide)) rfl T.g_law_get T.F_law_get.kp (b_law_get T) takesD (da_cons (d_var 0) (da_cons d_int da_nil))))))
  case hsp =>
    skip
    rintro ds cs Q Z ⟨p, rfl, hb, h⟩ _
    show (_ : WS) (finD Q Z) [some _] cs
    walk_at "go"
    refine ⟨p, 2, rfl, by decide, by decide, hb, fun g cs1 g0 g1 st => ?_⟩
    have hg : g = 0 ∨ g = 1 := by omega
    rcases hg with rfl | rfl
    · walk_at "go"
      exact h true _ st
    · walk_at "go"
      exact h false _ st
local macro_rules | `(tactic| walk_at "cl") => `(tactic| (first | ((with_reducible apply r_law_lean); (walk_at "bg"))))
def sp_law_tree : Nat → DSp
  | 0 => fun _ _ _ _ => False
  | n + 1 => fun ds cs P _ => ∃ (p : Addr) (m : Nat), ds = [.opq (.ref p), .int (m : Int)] ∧ 1 ≤ m ∧ m ≤ n + 1 ∧ n ≤ 20 ∧ BagIn p cs ∧ ∀ (t : Tr) cs', t.n = m → BagStep p cs cs' → P t.d cs'
theorem r_law_tree {p : Addr} {m : Nat} {cs : Cs} {P : DP} {Z : XZ} (m0 : 1 ≤ m) (m1 : m ≤ 7) (hb : BagIn p cs) (h : ∀ (t : Tr) cs', t.n = m → BagStep p cs cs' → P t.d cs') : sp_law_tree 8 [.opq (.ref p), .int (m : Int)] cs P Z := ⟨p, m, rfl, m0, Nat.le_succ_of_le m1, by decide, hb, h⟩
theorem sc_law_tree : FnScope ["_law_bag_here", "_law_many", "_law_at"] ["_law_bag_here", "_law_many"] (defScope s_law_tree) := ⟨rfl, rfl, rfl, by decide +kernel, rfl, by decide +kernel, by decide +kernel⟩
theorem ok_law_tree {P : Program} {w : World} {K : PySem.W.Frag} {mg : Str → Option Value} {base : Heap} (T : Txt K mg base) (n : Nat) : FnOk P w K mg base (L2.CX P w) (n + 3) (He.ga K "_law_tree") T.fd_law_tree ["_law_bag_here", "_law_many"] (spL K 2 (sp_law_tree n)) := by
  induction n with
  | zero => exact vacF
  | succ n G =>
  rw [show n + 1 + 3 = (n + 3) + 1 from by omega]
  apply ok_def (k := n + 3) T.F_law_tree sc_law_tree
  case hb =>
    intro cdv A outer s H E hr
    exact (dss_cons (ds_if (dt_lt (d_var 1) d_int) (dss_one (ds_ret (d_tup da_nil))) dss_nil)
      (dss_cons (ds_set (i := 2) sc_law_tree.nd rfl (Or.inl rfl) (d_add d_int (d_callN (ok_law_get T) (hr.mono (by omega)) rfl T.g_law_get T.F_law_get.kp (b_law_get T) takesD (da_cons (d_var 0) (da_cons (d_sub (d_var 1) d_int) da_nil)))))
      (dss_one (ds_ret (d_tup (da_cons (d_callN (ok_law_lean T) (hr.mono (by omega)) rfl T.g_law_lean T.F_law_lean.kp (b_law_lean T) takesD (da_cons (d_var 0) da_nil)) (da_cons (d_callN G hr rfl T.g_law_tree T.F_law_tree.kp (b_law_tree T) takesD (da_cons (d_var 0) (da_cons (d_var 2) da_nil))) (da_cons (d_callN G hr rfl T.g_law_tree T.F_law_tree.kp (b_law_tree T) takesD (da_cons (d_var 0) (da_cons (d_sub (d_var 1) (d_var 2)) da_nil))) da_nil))))))))
  case hsp =>
    skip
    rintro ds cs Q Z ⟨p, m, rfl, m0, m1, hn, hb, h⟩ _
    show (_ : WS) (finD Q Z) [some _, some _, none] cs
    walk_at "GO"
    refine ⟨fun hk => ?_, fun hk => ?_⟩
    · have hk := decT hk
      walk_at "GO"
      exact h .lf cs (by show 1 = m; omega) (.refl hb)
    have hk := decF hk
    obtain ⟨n, rfl⟩ : ∃ n', n = n' + 1 := ⟨n - 1, by omega⟩
    walk_at "GO"
    intro g ca g0 g1 st1
    walk_at "GO"
    intro dn cb st2
    walk_at "GO"
    obtain ⟨k, hk2⟩ : ∃ k : Nat, 1 + g = (k : Int) := ⟨(1 + g).toNat, by omega⟩
    rw [hk2]
    refine ⟨p, k, rfl, by omega, by omega, by omega, st2.bag, fun t cc ht st3 => ?_⟩
    walk_at "GO"
    refine ⟨p, m - k, by rw [show (m : Int) - (k : Int) = ((m - k : Nat) : Int) by omega], by omega, by omega, by omega, st3.bag, fun u cd hu st4 => ?_⟩
    walk_at "GO"
    exact h (.nd dn t u) cd (by show t.n + u.n = m; omega) (((st1.trans st2).trans st3).trans st4)
local macro_rules | `(tactic| walk_at "cl") => `(tactic| (first | ((with_reducible apply r_law_tree); (walk_at "in"); (walk_at "in"); (walk_at "bg"))))
def sp_law_gcd : DSp := fun ds cs P _ => ∃ a b : Nat, ds = [.int (a : Int), .int (b : Int)] ∧ P (.int (Nat.gcd a b : Int)) cs
theorem sc_law_gcd : FnScope ["_law_one", "_law_other"] ["_law_one", "_law_other"] (defScope s_law_gcd) := ⟨rfl, rfl, rfl, by decide +kernel, rfl, by decide +kernel, by decide +kernel⟩
theorem ok_law_gcd {P : Program} {w : World} {K : PySem.W.Frag} {mg : Str → Option Value} {base : Heap} (T : Txt K mg base) : FnOk P w K mg base (L2.CX P w) 1 (He.ga K "_law_gcd") T.fd_law_gcd ["_law_one", "_law_other"] (spL K 2 sp_law_gcd) := by
  apply ok_def (k := 0) T.F_law_gcd sc_law_gcd
  case hb =>
    intro cdv A outer s H E hr
    exact (dss_cons (ds_while passD (dt_gt (d_var 1) d_int) (dss_one (ds_par (i := 0) (j := 1) rfl sc_law_gcd.nd rfl rfl (by decide) rfl rfl (da_cons (d_var 1) (da_cons (d_mod (d_var 0) (d_var 1)) da_nil)))))
      (dss_one (ds_ret (d_var 0))))
  case hsp =>
    skip
    rintro ds cs Q Z ⟨a, b, rfl, h⟩ _
    show (_ : WS) (finD Q Z) [some _, some _] cs
    walk_at "go"
    refine r_while (fun m ρ cs' => ∃ a' b' : Nat, ρ = [some (.int (a' : Int)), some (.int (b' : Int))] ∧ m = b' ∧ cs' = cs ∧ Nat.gcd a' b' = Nat.gcd a b) ⟨b, a, b, rfl, rfl, rfl, rfl⟩ ?_
    rintro m ρ cs' N ⟨a', b', rfl, hm, rfl, hg⟩ hN
    walk_at "go"
    refine ⟨fun hk => ?_, fun hk => ?_⟩
    · have hb : (b' : Int) ≠ 0 := by have := decT hk; omega
      have hb0 : (0 : Int) < b' := by omega
      walk_at "go"
      refine hN (a' % b') _ _ (by rw [hm]; exact Nat.mod_lt _ (by omega)) ⟨b', a' % b', rfl, rfl, rfl, ?_⟩
      rw [← hg, Nat.gcd_comm b', ← Nat.gcd_rec, Nat.gcd_comm]
    · have hb : (b' : Int) = 0 := by have := decF hk; omega
      have hb0 : b' = 0 := by omega
      rw [hb0]
      walk_at "go"
      rw [← hg, hb0, Nat.gcd_zero_right] at h
      exact h
def sp_law_part : DSp := fun ds cs P _ => ∃ a b : Int, ds = [.int a, .int b] ∧ b ≠ 0 ∧ b.natAbs < 2 ^ 9000 ∧ P (dR (Rat.divInt a b)) cs
theorem r_law_part {a b : Int} {cs : Cs} {P : DP} {Z : XZ} (b0 : b ≠ 0) (hb : b.natAbs < 2 ^ 9000) (h : P (dR (Rat.divInt a b)) cs) : sp_law_part [.int a, .int b] cs P Z := ⟨a, b, rfl, b0, hb, h⟩
theorem sc_law_part : FnScope ["_law_above_here", "_law_below", "_law_by"] ["_law_above_here", "_law_below"] (defScope s_law_part) := ⟨rfl, rfl, rfl, by decide +kernel, rfl, by decide +kernel, by decide +kernel⟩
theorem ok_law_part {P : Program} {w : World} {K : PySem.W.Frag} {mg : Str → Option Value} {base : Heap} (T : Txt K mg base) : FnOk P w K mg base (L2.CX P w) 2 (He.ga K "_law_part") T.fd_law_part ["_law_above_here", "_law_below"] (spL K 2 sp_law_part) := by
  apply ok_def (k := 1) T.F_law_part sc_law_part
  case hb =>
    intro cdv A outer s H E hr
    exact (dss_cons (ds_if (dt_lt (d_var 1) d_int) (dss_one (ds_par (i := 0) (j := 1) rfl sc_law_part.nd rfl rfl (by decide) rfl rfl (da_cons (d_sub d_int (d_var 0)) (da_cons (d_sub d_int (d_var 1)) da_nil)))) dss_nil)
      (dss_cons (ds_set (i := 2) sc_law_part.nd rfl (Or.inl rfl) (d_callN (ok_law_gcd T) (hr.mono (by decide)) rfl T.g_law_gcd T.F_law_gcd.kp (b_law_gcd T) takesD (da_cons (d_callB call_abs adq_abs rfl T.n_abs (by decide +kernel) (da_cons (d_var 0) da_nil)) (da_cons (d_var 1) da_nil))))
      (dss_one (ds_ret (d_tup (da_cons (d_fdiv (d_var 0) (d_var 2)) (da_cons (d_fdiv (d_var 1) (d_var 2)) da_nil)))))))
  case hsp =>
    skip
    rintro ds cs Q Z ⟨a, b, rfl, hb, hs, h⟩ _
    show (_ : WS) (finD Q Z) [some _, some _, none] cs
    refine r_key (N := fun ρ' cs' => ∃ a' b' : Int, ρ' = [some (.int a'), some (.int b'), none] ∧ cs' = cs ∧ 0 < b' ∧ b'.natAbs < 2 ^ 9000 ∧ Rat.divInt a' b' = Rat.divInt a b) ?_ (fun nx key => ?_)
    · rintro ρ' cs' ⟨a', b', rfl, rfl, hp, hz, he⟩
      walk_at "go"
      rw [abs_nat]
      have hn : b' = (b'.natAbs : Int) := by omega
      refine ⟨a'.natAbs, b'.natAbs, by rw [← hn], ?_⟩
      have g := gcd_ok (a := a'.natAbs) (b := b'.natAbs) (by omega) hz
      obtain ⟨e1, e2⟩ := part_pos a' b' hp
      walk_at "go"
      show Q (.tup [.int (a' / _), .int (b' / _)]) cs'
      rw [e1, e2, he]
      exact h
    · walk_at "go"
      refine ⟨fun hk2 => ?_, fun hk2 => ?_⟩
      · have hlt := decT hk2
        walk_at "go"
        exact key _ _ ⟨0 - a, 0 - b, rfl, rfl, by omega, by rw [Int.zero_sub, Int.natAbs_neg]; exact hs, by rw [Int.zero_sub, Int.zero_sub]; exact part_neg a b⟩
      · have hlt := decF hk2
        walk_at "go"
        exact key _ _ ⟨a, b, rfl, rfl, by omega, hs, rfl⟩
local macro_rules | `(tactic| walk_at "cl") => `(tactic| (first | ((with_reducible apply r_law_part); (walk_at "in"); (walk_at "p9"))))
def sp_law_plus : DSp := fun ds cs P _ => ∃ x y : Rat, ds = [dR x, dR y] ∧ Sz 4000 x ∧ Sz 4000 y ∧ P (dR (x + y)) cs
theorem r_law_plus {x y : Rat} {cs : Cs} {P : DP} {Z : XZ} (hx : Sz 4000 x) (hy : Sz 4000 y) (h : P (dR (x + y)) cs) : sp_law_plus [dR x, dR y] cs P Z := ⟨x, y, rfl, hx, hy, h⟩
theorem sc_law_plus : FnScope ["_law_one", "_law_other"] ["_law_one", "_law_other"] (defScope s_law_plus) := ⟨rfl, rfl, rfl, by decide +kernel, rfl, by decide +kernel, by decide +kernel⟩
theorem ok_law_plus {P : Program} {w : World} {K : PySem.W.Frag} {mg : Str → Option Value} {base : Heap} (T : Txt K mg base) : FnOk P w K mg base (L2.CX P w) 3 (He.ga K "_law_plus") T.fd_law_plus ["_law_one", "_law_other"] (spL K 2 sp_law_plus) := by
  apply ok_def (k := 2) T.F_law_plus sc_law_plus
  case hb =>
    intro cdv A outer s H E hr
    exact (dss_one (ds_ret (d_callN (ok_law_part T) (hr.mono (by decide)) rfl T.g_law_part T.F_law_part.kp (b_law_part T) takesD (da_cons (d_add (d_mul (d_sub_ix (d_var 0) d_int) (d_sub_ix (d_var 1) d_int)) (d_mul (d_sub_ix (d_var 1) d_int) (d_sub_ix (d_var 0) d_int))) (da_cons (d_mul (d_sub_ix (d_var 0) d_int) (d_sub_ix (d_var 1) d_int)) da_nil)))))
  case hsp =>
    skip
    rintro ds cs Q Z ⟨x, y, rfl, hx, hy, h⟩ _
    show (_ : WS) (finD Q Z) [some _, some _] cs
    have m1 := hx.nd hy
    have m2 := hy.nd hx
    have m3 := hx.dd hy
    have m4 := hx.nn hy
    walk_at "go"
    exact ⟨_, _, rfl, Int.mul_ne_zero (den_ne x) (den_ne y), dd_ok hx hy (by decide), by rw [divInt_add]; exact h⟩
local macro_rules | `(tactic| walk_at "cl") => `(tactic| (first | ((with_reducible apply r_law_plus); (walk_at "sz"); (walk_at "sz"))))
def sp_law_times : DSp := fun ds cs P _ => ∃ x y : Rat, ds = [dR x, dR y] ∧ Sz 4000 x ∧ Sz 4000 y ∧ P (dR (x * y)) cs
theorem r_law_times {x y : Rat} {cs : Cs} {P : DP} {Z : XZ} (hx : Sz 4000 x) (hy : Sz 4000 y) (h : P (dR (x * y)) cs) : sp_law_times [dR x, dR y] cs P Z := ⟨x, y, rfl, hx, hy, h⟩
theorem sc_law_times : FnScope ["_law_one", "_law_other"] ["_law_one", "_law_other"] (defScope s_law_times) := ⟨rfl, rfl, rfl, by decide +kernel, rfl, by decide +kernel, by decide +kernel⟩
theorem ok_law_times {P : Program} {w : World} {K : PySem.W.Frag} {mg : Str → Option Value} {base : Heap} (T : Txt K mg base) : FnOk P w K mg base (L2.CX P w) 3 (He.ga K "_law_times") T.fd_law_times ["_law_one", "_law_other"] (spL K 2 sp_law_times) := by
  apply ok_def (k := 2) T.F_law_times sc_law_times
  case hb =>
    intro cdv A outer s H E hr
    exact (dss_one (ds_ret (d_callN (ok_law_part T) (hr.mono (by decide)) rfl T.g_law_part T.F_law_part.kp (b_law_part T) takesD (da_cons (d_mul (d_sub_ix (d_var 0) d_int) (d_sub_ix (d_var 1) d_int)) (da_cons (d_mul (d_sub_ix (d_var 0) d_int) (d_sub_ix (d_var 1) d_int)) da_nil)))))
  case hsp =>
    skip
    rintro ds cs Q Z ⟨x, y, rfl, hx, hy, h⟩ _
    show (_ : WS) (finD Q Z) [some _, some _] cs
    have m1 := hx.nd hy
    have m2 := hy.nd hx
    have m3 := hx.dd hy
    have m4 := hx.nn hy
    walk_at "go"
    exact ⟨_, _, rfl, Int.mul_ne_zero (den_ne x) (den_ne y), dd_ok hx hy (by decide), by rw [divInt_mul]; exact h⟩
local macro_rules | `(tactic| walk_at "cl") => `(tactic| (first | ((with_reducible apply r_law_times); (walk_at "sz"); (walk_at "sz"))))
def sp_law_split : DSp := fun ds cs P _ => ∃ (b : Bx) (ws : List Int) (dn : Bool), ds = [b.d, .lst (ws.map D.int), sideD dn] ∧ WOk ws ∧ b.Sz 1900 ∧ P (.lst ((splitB b ws dn).map Bx.d)) cs
theorem r_law_split {b : Bx} {ws : List Int} {dn : Bool} {cs : Cs} {P : DP} {Z : XZ} (hw : WOk ws) (hb : b.Sz 1900) (h : P (.lst ((splitB b ws dn).map Bx.d)) cs) : sp_law_split [b.d, .lst (ws.map D.int), sideD dn] cs P Z := ⟨b, ws, dn, rfl, hw, hb, h⟩
theorem sc_law_split : FnScope ["_law_box_here", "_law_weights_here", "_law_lean_here", "_law_left", "_law_top", "_law_wide", "_law_high", "_law_found", "_law_before", "_law_weight_here", "_law_begin", "_law_share"] ["_law_box_here", "_law_weights_here", "_law_lean_here"] (defScope s_law_split) := ⟨rfl, rfl, rfl, by decide +kernel, rfl, by decide +kernel, by decide +kernel⟩
theorem ok_law_split {P : Program} {w : World} {K : PySem.W.Frag} {mg : Str → Option Value} {base : Heap} (T : Txt K mg base) : FnOk P w K mg base (L2.CX P w) 4 (He.ga K "_law_split") T.fd_law_split ["_law_box_here", "_law_weights_here", "_law_lean_here"] (spL K 3 sp_law_split) := by
  apply ok_def (k := 3) T.F_law_split sc_law_split
  case hb =>
    intro cdv A outer s H E hr
    exact (dss_cons (ds_asg (d_var 0) (dg_tup (n := 4) rfl (dgs_cons (dg_name (i := 3) sc_law_split.nd rfl (Or.inl rfl)) (dgs_cons (dg_name (i := 4) sc_law_split.nd rfl (Or.inl rfl)) (dgs_cons (dg_name (i := 5) sc_law_split.nd rfl (Or.inl rfl)) (dgs_cons (dg_name (i := 6) sc_law_split.nd rfl (Or.inl rfl)) dgs_nil))))))
      (dss_cons (ds_set (i := 7) sc_law_split.nd rfl (Or.inl rfl) (d_lstM da_nil))
      (dss_cons (ds_set (i := 8) sc_law_split.nd rfl (Or.inl rfl) d_int)
      (dss_cons (ds_for passD rfl (di_list (d_var 1)) (dg_name (i := 9) sc_law_split.nd rfl (Or.inl rfl)) (dss_cons (ds_par (i := 10) (j := 11) rfl sc_law_split.nd rfl rfl (by decide) rfl rfl (da_cons (d_callN (ok_law_part T) (hr.mono (by decide)) rfl T.g_law_part T.F_law_part.kp (b_law_part T) takesD (da_cons (d_var 8) (da_cons (d_callB (cr_sumA rfl) adq_sumA rfl T.n_sum (by decide +kernel) (da_cons (d_var 1) da_nil)) da_nil))) (da_cons (d_callN (ok_law_part T) (hr.mono (by decide)) rfl T.g_law_part T.F_law_part.kp (b_law_part T) takesD (da_cons (d_var 9) (da_cons (d_callB (cr_sumA rfl) adq_sumA rfl T.n_sum (by decide +kernel) (da_cons (d_var 1) da_nil)) da_nil))) da_nil)))
      (dss_cons (ds_if (dt_eq hr.units (d_var 2) d_str) (dss_one (ds_expr (d_append (d_var 7) (da_cons (d_tup (da_cons (d_var 3) (da_cons (d_callN (ok_law_plus T) (hr.mono (by decide)) rfl T.g_law_plus T.F_law_plus.kp (b_law_plus T) takesD (da_cons (d_var 4) (da_cons (d_callN (ok_law_times T) (hr.mono (by decide)) rfl T.g_law_times T.F_law_times.kp (b_law_times T) takesD (da_cons (d_var 6) (da_cons (d_var 10) da_nil))) da_nil))) (da_cons (d_var 5) (da_cons (d_callN (ok_law_times T) (hr.mono (by decide)) rfl T.g_law_times T.F_law_times.kp (b_law_times T) takesD (da_cons (d_var 6) (da_cons (d_var 11) da_nil))) da_nil))))) da_nil)))) (dss_one (ds_expr (d_append (d_var 7) (da_cons (d_tup (da_cons (d_callN (ok_law_plus T) (hr.mono (by decide)) rfl T.g_law_plus T.F_law_plus.kp (b_law_plus T) takesD (da_cons (d_var 3) (da_cons (d_callN (ok_law_times T) (hr.mono (by decide)) rfl T.g_law_times T.F_law_times.kp (b_law_times T) takesD (da_cons (d_var 5) (da_cons (d_var 10) da_nil))) da_nil))) (da_cons (d_var 4) (da_cons (d_callN (ok_law_times T) (hr.mono (by decide)) rfl T.g_law_times T.F_law_times.kp (b_law_times T) takesD (da_cons (d_var 5) (da_cons (d_var 11) da_nil))) (da_cons (d_var 6) da_nil))))) da_nil)))))
      (dss_one (ds_set (i := 8) sc_law_split.nd rfl (Or.inl rfl) (d_add (d_var 8) (d_var 9)))))))
      (dss_one (ds_ret (d_frz (d_var 7))))))))
  case hsp =>
    skip
    rintro ds cs Q Z ⟨b, ws, dn, rfl, hw, hb, h⟩ _
    have hs := hw.sum_pos
    have hs2 := hw.sum
    show (_ : WS) (finD Q Z) [some _, some _, some _, none, none, none, none, none, none, none, none, none] cs
    unfold Bx.d dB
    walk_at "go"
    intro p hp
    walk_at "go"
    cases dn
    · refine r_loop0 (fun i ρ cs' => ∃ c0 c9 c10 c11, ρ = [c0, some (.lst (ws.map D.int)), some (sideD false), some (dR b.l), some (dR b.t), some (dR b.w), some (dR b.h), some (.opq (.ref p)), some (.int (preS ws i)), c9, c10, c11] ∧ cs' = (p, .lst ((List.range i).map fun j => (splitAt_ b ws false j).d)) :: cs) ⟨_, none, none, none, by rw [preS_zero]; exact rfl, rfl⟩ ?_ ?_
      · rintro i d ρ cs' N hd ⟨c0, c9, c10, c11, rfl, rfl⟩ hN
        obtain ⟨wt, hwt, rfl⟩ := get_map_int hd
        have hi : i < ws.length := (List.getElem?_eq_some_iff.mp hwt).1
        have f1 := Sz.frac (a := wt) (by have := hw.pos _ (List.mem_of_getElem? hwt); omega) (by have := mem_le_sum hw.pos hwt; omega) hs hs2
        have f2 := Sz.frac (preS_nonneg hw.pos i) (by have := preS_le hw.pos i; omega) hs hs2
        walk_at "go"
        refine ⟨ws, .inl rfl, ?_⟩
        walk_at "go"
        refine ⟨preS ws i, ws.sum, rfl, by omega, szlt hs hs2, ?_⟩
        walk_at "go"
        refine ⟨ws, .inl rfl, ?_⟩
        walk_at "go"
        refine ⟨wt, ws.sum, rfl, by omega, szlt hs hs2, ?_⟩
        walk_at "go"
        refine ⟨b.w, Rat.divInt (preS ws i) ws.sum, rfl, hb.w.mono (by decide), f2.mono (by decide), ?_⟩
        walk_at "go"
        refine ⟨b.l, b.w * Rat.divInt (preS ws i) ws.sum, rfl, hb.l.mono (by decide), (hb.w.mul f2).mono (by decide), ?_⟩
        walk_at "go"
        refine ⟨b.w, Rat.divInt wt ws.sum, rfl, hb.w.mono (by decide), f1.mono (by decide), ?_⟩
        walk_at "go"
        refine r_appendH (by rw [List.length_map, List.length_range]; have := hw.l1; omega) ?_
        walk_at "go"
        rw [← preS_succ hwt]
        refine hN _ _ ⟨_, _, _, _, rfl, ?_⟩
        have e2 : splitAt_ b ws false i = cutB b false (Rat.divInt (preS ws i) ws.sum) (Rat.divInt wt ws.sum) := by
          unfold splitAt_
          rw [List.getD_eq_getElem?_getD, hwt]; rfl
        rw [List.range_succ, List.map_append, List.map_cons, List.map_nil, e2]
        rfl
      · rintro ρ cs' ⟨c0, c9, c10, c11, rfl, rfl⟩
        walk_at "go"
        rw [List.length_map]
        have h2 := h
        unfold splitB at h2
        rw [List.map_map] at h2
        exact h2
    · refine r_loop0 (fun i ρ cs' => ∃ c0 c9 c10 c11, ρ = [c0, some (.lst (ws.map D.int)), some (sideD true), some (dR b.l), some (dR b.t), some (dR b.w), some (dR b.h), some (.opq (.ref p)), some (.int (preS ws i)), c9, c10, c11] ∧ cs' = (p, .lst ((List.range i).map fun j => (splitAt_ b ws true j).d)) :: cs) ⟨_, none, none, none, by rw [preS_zero]; exact rfl, rfl⟩ ?_ ?_
      · rintro i d ρ cs' N hd ⟨c0, c9, c10, c11, rfl, rfl⟩ hN
        obtain ⟨wt, hwt, rfl⟩ := get_map_int hd
        have hi : i < ws.length := (List.getElem?_eq_some_iff.mp hwt).1
        have f1 := Sz.frac (a := wt) (by have := hw.pos _ (List.mem_of_getElem? hwt); omega) (by have := mem_le_sum hw.pos hwt; omega) hs hs2
        have f2 := Sz.frac (preS_nonneg hw.pos i) (by have := preS_le hw.pos i; omega) hs hs2
        walk_at "go"
        refine ⟨ws, .inl rfl, ?_⟩
        walk_at "go"
        refine ⟨preS ws i, ws.sum, rfl, by omega, szlt hs hs2, ?_⟩
        walk_at "go"
        refine ⟨ws, .inl rfl, ?_⟩
        walk_at "go"
        refine ⟨wt, ws.sum, rfl, by omega, szlt hs hs2, ?_⟩
        walk_at "go"
        refine ⟨b.h, Rat.divInt (preS ws i) ws.sum, rfl, hb.h.mono (by decide), f2.mono (by decide), ?_⟩
        walk_at "go"
        refine ⟨b.t, b.h * Rat.divInt (preS ws i) ws.sum, rfl, hb.t.mono (by decide), (hb.h.mul f2).mono (by decide), ?_⟩
        walk_at "go"
        refine ⟨b.h, Rat.divInt wt ws.sum, rfl, hb.h.mono (by decide), f1.mono (by decide), ?_⟩
        walk_at "go"
        refine r_appendH (by rw [List.length_map, List.length_range]; have := hw.l1; omega) ?_
        walk_at "go"
        rw [← preS_succ hwt]
        refine hN _ _ ⟨_, _, _, _, rfl, ?_⟩
        have e2 : splitAt_ b ws true i = cutB b true (Rat.divInt (preS ws i) ws.sum) (Rat.divInt wt ws.sum) := by
          unfold splitAt_
          rw [List.getD_eq_getElem?_getD, hwt]; rfl
        rw [List.range_succ, List.map_append, List.map_cons, List.map_nil, e2]
        rfl
      · rintro ρ cs' ⟨c0, c9, c10, c11, rfl, rfl⟩
        walk_at "go"
        rw [List.length_map]
        have h2 := h
        unfold splitB at h2
        rw [List.map_map] at h2
        exact h2
local macro_rules | `(tactic| walk_at "cl") => `(tactic| (first | ((with_reducible apply r_law_split); (walk_at "wk"); (walk_at "sz"))))
def halvesD (b : Bx) (ws : List Int) (k : Nat) (dn : Bool) : D := .lst [.tup [(fstB b ws k dn).d, .lst ((ws.take k).map D.int)], .tup [(sndB b ws k dn).d, .lst ((ws.drop k).map D.int)]]
def sp_law_halves : DSp := fun ds cs P _ => ∃ (b : Bx) (ws : List Int) (k : Nat) (dn : Bool), ds = [b.d, .lst (ws.map D.int), .int (k : Int), sideD dn] ∧ WtOk ws ∧ 1 ≤ k ∧ k < ws.length ∧ b.Sz 1900 ∧ P (halvesD b ws k dn) cs
theorem r_law_halves {b : Bx} {ws : List Int} {k : Nat} {dn : Bool} {cs : Cs} {P : DP} {Z : XZ} (hw : WtOk ws) (k0 : 1 ≤ k) (k1 : k < ws.length) (hb : b.Sz 1900) (h : P (halvesD b ws k dn) cs) : sp_law_halves [b.d, .lst (ws.map D.int), .int (k : Int), sideD dn] cs P Z := ⟨b, ws, k, dn, rfl, hw, k0, k1, hb, h⟩
theorem sc_law_halves : FnScope ["_law_box_here", "_law_weights_here", "_law_at", "_law_lean_here", "_law_one", "_law_other"] ["_law_box_here", "_law_weights_here", "_law_at", "_law_lean_here"] (defScope s_law_halves) := ⟨rfl, rfl, rfl, by decide +kernel, rfl, by decide +kernel, by decide +kernel⟩
theorem ok_law_halves {P : Program} {w : World} {K : PySem.W.Frag} {mg : Str → Option Value} {base : Heap} (T : Txt K mg base) : FnOk P w K mg base (L2.CX P w) 5 (He.ga K "_law_halves") T.fd_law_halves ["_law_box_here", "_law_weights_here", "_law_at", "_law_lean_here"] (spL K 4 sp_law_halves) := by
  apply ok_def (k := 4) T.F_law_halves sc_law_halves
  case hb =>
    intro cdv A outer s H E hr
    exact (dss_cons (ds_asg (d_callN (ok_law_split T) (hr.mono (by decide)) rfl T.g_law_split T.F_law_split.kp (b_law_split T) takesD (da_cons (d_var 0) (da_cons (d_lst (da_cons (d_callB (cr_sumA rfl) adq_sumA rfl T.n_sum (by decide +kernel) (da_cons (d_slice sl_list adq_slL (d_var 1) do_none (do_some (d_var 2))) da_nil)) (da_cons (d_callB (cr_sumA rfl) adq_sumA rfl T.n_sum (by decide +kernel) (da_cons (d_slice sl_list adq_slL (d_var 1) (do_some (d_var 2)) do_none) da_nil)) da_nil))) (da_cons (d_var 3) da_nil)))) (dg_lst (n := 2) rfl (dgs_cons (dg_name (i := 4) sc_law_halves.nd rfl (Or.inl rfl)) (dgs_cons (dg_name (i := 5) sc_law_halves.nd rfl (Or.inl rfl)) dgs_nil))))
      (dss_one (ds_ret (d_lst (da_cons (d_tup (da_cons (d_var 4) (da_cons (d_slice sl_list adq_slL (d_var 1) do_none (do_some (d_var 2))) da_nil))) (da_cons (d_tup (da_cons (d_var 5) (da_cons (d_slice sl_list adq_slL (d_var 1) (do_some (d_var 2)) do_none) da_nil))) da_nil))))))
  case hsp =>
    skip
    rintro ds cs Q Z ⟨b, ws, k, dn, rfl, hw, k0, k1, hb, h⟩ _
    have hk := twoW_ok hw k0 k1
    have e1 : DL.cutD (ws.map D.int) none (some (k : Int)) = (ws.take k).map D.int := by
      rw [cutD_pre (by omega) (by rw [List.length_map]; omega), List.map_take]; rfl
    have e2 : DL.cutD (ws.map D.int) (some (k : Int)) none = (ws.drop k).map D.int := by
      rw [cutD_suf (by omega) (by rw [List.length_map]; omega), List.map_drop]; rfl
    show (_ : WS) (finD Q Z) [some _, some _, some _, some _, none, none] cs
    walk_at "GO"
    rw [e1]
    refine ⟨ws.take k, .inl rfl, ?_⟩
    walk_at "GO"
    rw [e2]
    refine ⟨ws.drop k, .inl rfl, ?_⟩
    walk_at "GO"
    refine ⟨b, twoW ws k, dn, rfl, hk, hb, ?_⟩
    rw [split_two]
    refine r_gL rfl ?_
    show gCn _ _ [(fstB b ws k dn).d, (sndB b ws k dn).d] _ _
    walk_at "GO"
    rw [e1]
    walk_at "GO"
    rw [e2]
    walk_at "GO"
    exact h
local macro_rules | `(tactic| walk_at "cl") => `(tactic| (first | ((with_reducible apply r_law_halves); (assumption); (walk_at "in"); (walk_at "in"); (walk_at "sz"))))
def sp_law_many_in : Nat → DSp
  | 0 => fun _ _ _ _ => False
  | n + 1 => fun ds cs P _ => ∃ (t : Tr), ds = [t.d] ∧ t.n ≤ n + 1 ∧ n ≤ 12 ∧ P (.int t.n) cs
theorem r_law_many_in {t : Tr} {cs : Cs} {P : DP} {Z : XZ} (hn : t.n ≤ 12) (h : P (.int t.n) cs) : sp_law_many_in 12 [t.d] cs P Z := ⟨t, rfl, hn, by decide, h⟩
theorem sc_law_many_in : FnScope ["_law_tree_here"] ["_law_tree_here"] (defScope s_law_many_in) := ⟨rfl, rfl, rfl, by decide +kernel, rfl, by decide +kernel, by decide +kernel⟩
theorem ok_law_many_in {P : Program} {w : World} {K : PySem.W.Frag} {mg : Str → Option Value} {base : Heap} (T : Txt K mg base) (n : Nat) : FnOk P w K mg base (L2.CX P w) (n + 1) (He.ga K "_law_many_in") T.fd_law_many_in ["_law_tree_here"] (spL K 1 (sp_law_many_in n)) := by
  induction n with
  | zero => exact vacF
  | succ n G =>
  rw [show n + 1 + 1 = (n + 1) + 1 from by omega]
  apply ok_def (k := n + 1) T.F_law_many_in sc_law_many_in
  case hb =>
    intro cdv A outer s H E hr
    exact (dss_one (ds_ret (d_if (dt_eq hr.units (d_var 0) (d_tup da_nil)) d_int (d_add (d_callN G hr rfl T.g_law_many_in T.F_law_many_in.kp (b_law_many_in T) takesD (da_cons (d_sub_ix (d_var 0) d_int) da_nil)) (d_callN G hr rfl T.g_law_many_in T.F_law_many_in.kp (b_law_many_in T) takesD (da_cons (d_sub_ix (d_var 0) d_int) da_nil))))))
  case hsp =>
    skip
    rintro ds cs Q Z ⟨t, rfl, ht, hn, h⟩ _
    show (_ : WS) (finD Q Z) [some _] cs
    cases t with
    | lf =>
      walk_at "GO"
      refine r_eqNilT rfl (fun _ => ?_) (fun e => absurd rfl e)
      walk_at "GO"
      exact h
    | nd dn x y =>
      have hx := x.n_pos
      have hy := y.n_pos
      have ht' : x.n + y.n ≤ n + 1 := ht
      obtain ⟨m, rfl⟩ : ∃ m, n = m + 1 := ⟨n - 1, by omega⟩
      have pt := (Tr.nd dn x y).plD 20 (by show x.n + y.n ≤ 20; omega)
      have e0 : (Tr.nd dn x y).d = .tup [sideD dn, x.d, y.d] := rfl
      rw [e0] at pt ⊢
      rw [show ((Tr.nd dn x y).n : Int) = x.n + y.n from Int.natCast_add _ _] at h
      walk_at "GO"
      refine r_eqNilT pt (fun e => by cases e) (fun _ => ?_)
      walk_at "GO"
      refine ⟨x, rfl, by omega, by omega, ?_⟩
      walk_at "GO"
      refine ⟨y, rfl, by omega, by omega, ?_⟩
      walk_at "GO"
      exact h
local macro_rules | `(tactic| walk_at "cl") => `(tactic| (first | ((with_reducible apply r_law_many_in); (walk_at "in"))))
def sp_law_sliced : Nat → DSp
  | 0 => fun _ _ _ _ => False
  | n + 1 => fun ds cs P _ => ∃ (b : Bx) (ws : List Int) (t : Tr) (k : Nat), ds = [b.d, .lst (ws.map D.int), t.d] ∧ WtOk ws ∧ t.n = ws.length ∧ ws.length ≤ n + 1 ∧ n ≤ 5 ∧ b.Pos ∧ b.Lv k ∧ k + ws.length ≤ 6 ∧ P (.lst ((slc t b ws).map Bx.d)) cs
theorem r_law_sliced {b : Bx} {ws : List Int} {t : Tr} {cs : Cs} {P : DP} {Z : XZ} (hw : WtOk ws) (ht : t.n = ws.length) (hl : ws.length ≤ 6) (hp : b.Pos) (hs : b.Sz 202) (h : P (.lst ((slc t b ws).map Bx.d)) cs) : sp_law_sliced 6 [b.d, .lst (ws.map D.int), t.d] cs P Z := ⟨b, ws, t, 0, rfl, hw, ht, hl, by decide, hp, hs.lv, by omega, h⟩
theorem sc_law_sliced : FnScope ["_law_box_here", "_law_weights_here", "_law_tree_here", "_law_pair"] ["_law_box_here", "_law_weights_here", "_law_tree_here"] (defScope s_law_sliced) := ⟨rfl, rfl, rfl, by decide +kernel, rfl, by decide +kernel, by decide +kernel⟩
theorem ok_law_sliced {P : Program} {w : World} {K : PySem.W.Frag} {mg : Str → Option Value} {base : Heap} (T : Txt K mg base) (n : Nat) : FnOk P w K mg base (L2.CX P w) (n + 14) (He.ga K "_law_sliced") T.fd_law_sliced ["_law_box_here", "_law_weights_here", "_law_tree_here"] (spL K 3 (sp_law_sliced n)) := by
  induction n with
  | zero => exact vacF
  | succ n G =>
  rw [show n + 1 + 14 = (n + 14) + 1 from by omega]
  apply ok_def (k := n + 14) T.F_law_sliced sc_law_sliced
  case hb =>
    intro cdv A outer s H E hr
    exact (dss_cons (ds_if (dt_eq hr.units (d_var 2) (d_tup da_nil)) (dss_one (ds_ret (d_lst (da_cons (d_var 0) da_nil)))) dss_nil)
      (dss_cons (ds_set (i := 3) sc_law_sliced.nd rfl (Or.inl rfl) (d_callN (ok_law_halves T) (hr.mono (by omega)) rfl T.g_law_halves T.F_law_halves.kp (b_law_halves T) takesD (da_cons (d_var 0) (da_cons (d_var 1) (da_cons (d_callN (ok_law_many_in T 12) (hr.mono (by omega)) rfl T.g_law_many_in T.F_law_many_in.kp (b_law_many_in T) takesD (da_cons (d_sub_ix (d_var 2) d_int) da_nil)) (da_cons (d_sub_ix (d_var 2) d_int) da_nil))))))
      (dss_one (ds_ret (d_catL (d_callN G hr rfl T.g_law_sliced T.F_law_sliced.kp (b_law_sliced T) takesD (da_cons (d_sub_ix (d_sub_ix (d_var 3) d_int) d_int) (da_cons (d_sub_ix (d_sub_ix (d_var 3) d_int) d_int) (da_cons (d_sub_ix (d_var 2) d_int) da_nil)))) (d_callN G hr rfl T.g_law_sliced T.F_law_sliced.kp (b_law_sliced T) takesD (da_cons (d_sub_ix (d_sub_ix (d_var 3) d_int) d_int) (da_cons (d_sub_ix (d_sub_ix (d_var 3) d_int) d_int) (da_cons (d_sub_ix (d_var 2) d_int) da_nil)))))))))
  case hsp =>
    skip
    rintro ds cs Q Z ⟨b, ws, t, k, rfl, hw, ht, hl, hn, hp, hv, hk, h⟩ _
    have l0 := hw.l0
    have l1 := hw.l1
    have bsz := hv.sz (show k ≤ 5 by omega)
    show (_ : WS) (finD Q Z) [some _, some _, some _, none] cs
    cases t with
    | lf =>
      walk_at "GO"
      refine r_eqNilT rfl (fun _ => ?_) (fun e => absurd rfl e)
      walk_at "GO"
      exact h
    | nd dn x y =>
      have hx := x.n_pos
      have hy := y.n_pos
      have ht' : x.n + y.n = ws.length := ht
      obtain ⟨m, rfl⟩ : ∃ m, n = m + 1 := ⟨n - 1, by omega⟩
      have pt := (Tr.nd dn x y).plD 20 (by show x.n + y.n ≤ 20; omega)
      have k1 : x.n < ws.length := by omega
      have wt := hw.take hx k1
      have wdp := hw.drop k1
      have lt_ : (ws.take x.n).length = x.n := by rw [List.length_take]; omega
      have ld_ : (ws.drop x.n).length = ws.length - x.n := by rw [List.length_drop]
      have l6 : (slc (.nd dn x y) b ws).length ≤ 6 := by rw [slc_len]; omega
      have e0 : (Tr.nd dn x y).d = .tup [sideD dn, x.d, y.d] := rfl
      rw [e0] at pt ⊢
      walk_at "GO"
      refine r_eqNilT pt (fun e => by cases e) (fun _ => ?_)
      walk_at "GO"
      unfold halvesD
      walk_at "GO"
      refine ⟨fstB b ws x.n dn, ws.take x.n, x, k + 1, rfl, wt, by omega, by omega, by omega, fst_pos hp hw hx k1 dn, fst_lv hv (by omega) hw hx k1 dn, by omega, ?_⟩
      walk_at "GO"
      refine ⟨sndB b ws x.n dn, ws.drop x.n, y, k + 1, rfl, wdp, by omega, by omega, by omega, snd_pos hp hw hx k1 dn, snd_lv hv (by omega) hw hx k1 dn, by omega, ?_⟩
      walk_at "GO"
      refine r_catLL (by rw [List.length_map, List.length_map, slc_len, slc_len]; omega) ?_
      rw [← List.map_append]
      exact h
local macro_rules | `(tactic| walk_at "cl") => `(tactic| (first | ((with_reducible apply r_law_sliced); (assumption); (assumption); (walk_at "in"); (walk_at "pb"); (walk_at "sz"))))
def sp_law_less : DSp := fun ds cs P _ => ∃ x y : Rat, ds = [dR x, dR y] ∧ Sz 4000 x ∧ Sz 4000 y ∧ P (.bl (decide (x < y))) cs
theorem r_law_less {x y : Rat} {cs : Cs} {P : DP} {Z : XZ} (hx : Sz 4000 x) (hy : Sz 4000 y) (h : P (.bl (decide (x < y))) cs) : sp_law_less [dR x, dR y] cs P Z := ⟨x, y, rfl, hx, hy, h⟩
theorem sc_law_less : FnScope ["_law_one", "_law_other"] ["_law_one", "_law_other"] (defScope s_law_less) := ⟨rfl, rfl, rfl, by decide +kernel, rfl, by decide +kernel, by decide +kernel⟩
theorem ok_law_less {P : Program} {w : World} {K : PySem.W.Frag} {mg : Str → Option Value} {base : Heap} (T : Txt K mg base) : FnOk P w K mg base (L2.CX P w) 1 (He.ga K "_law_less") T.fd_law_less ["_law_one", "_law_other"] (spL K 2 sp_law_less) := by
  apply ok_def (k := 0) T.F_law_less sc_law_less
  case hb =>
    intro cdv A outer s H E hr
    exact (dss_one (ds_ret (d_lt (d_mul (d_sub_ix (d_var 0) d_int) (d_sub_ix (d_var 1) d_int)) (d_mul (d_sub_ix (d_var 1) d_int) (d_sub_ix (d_var 0) d_int)))))
  case hsp =>
    skip
    rintro ds cs Q Z ⟨x, y, rfl, hx, hy, h⟩ _
    show (_ : WS) (finD Q Z) [some _, some _] cs
    have m1 := hx.nd hy
    have m2 := hy.nd hx
    walk_at "go"
    have e : decide (x < y) = decide (x.num * (y.den : Int) < y.num * (x.den : Int)) := decide_eq_decide.mpr (Rat.lt_iff x y)
    rw [e] at h
    exact h
local macro_rules | `(tactic| walk_at "cl") => `(tactic| (first | ((with_reducible apply r_law_less); (walk_at "sz"); (walk_at "sz"))))
def sp_law_most : DSp := fun ds cs P _ => ∃ rs : List Rat, ds = [.lst (rs.map dR)] ∧ rs ≠ [] ∧ (∀ r ∈ rs, Sz 4000 r) ∧ P (dR (maxL rs)) cs
theorem r_law_most {rs : List Rat} {cs : Cs} {P : DP} {Z : XZ} (h0 : rs ≠ []) (hs : ∀ r ∈ rs, Sz 4000 r) (h : P (dR (maxL rs)) cs) : sp_law_most [.lst (rs.map dR)] cs P Z := ⟨rs, rfl, h0, hs, h⟩
theorem sc_law_most : FnScope ["_law_parts", "_law_chief", "_law_one"] ["_law_parts"] (defScope s_law_most) := ⟨rfl, rfl, rfl, by decide +kernel, rfl, by decide +kernel, by decide +kernel⟩
theorem ok_law_most {P : Program} {w : World} {K : PySem.W.Frag} {mg : Str → Option Value} {base : Heap} (T : Txt K mg base) : FnOk P w K mg base (L2.CX P w) 2 (He.ga K "_law_most") T.fd_law_most ["_law_parts"] (spL K 1 sp_law_most) := by
  apply ok_def (k := 1) T.F_law_most sc_law_most
  case hb =>
    intro cdv A outer s H E hr
    exact (dss_cons (ds_set (i := 1) sc_law_most.nd rfl (Or.inl rfl) (d_sub_ix (d_var 0) d_int))
      (dss_cons (ds_for passD rfl (di_list (d_var 0)) (dg_name (i := 2) sc_law_most.nd rfl (Or.inl rfl)) (dss_one (ds_set (i := 1) sc_law_most.nd rfl (Or.inl rfl) (d_if (dt_val (d_callN (ok_law_less T) (hr.mono (by decide)) rfl T.g_law_less T.F_law_less.kp (b_law_less T) takesD (da_cons (d_var 1) (da_cons (d_var 2) da_nil)))) (d_var 2) (d_var 1)))))
      (dss_one (ds_ret (d_var 1)))))
  case hsp =>
    skip
    rintro ds cs Q Z ⟨rs, rfl, h0, hs, h⟩ _
    show (_ : WS) (finD Q Z) [some _, none, none] cs
    cases rs with
    | nil => exact absurd rfl h0
    | cons x xs =>
      refine r_key (fun ρ cs' => ∃ (c2 : Option D), ρ = [some (.lst ((x :: xs).map dR)), some (dR x), c2] ∧ cs = cs') ?_ (fun nx key => ?_)
      case refine_2 =>
        rw [List.map_cons]
        walk_at "GO"
        exact key _ _ ⟨_, rfl, rfl⟩
      rintro ρ _ ⟨c2, rfl, rfl⟩
      walk_at "GO"
      refine r_loopL (fun i ρ cs' => ∃ (c2 : Option D), ρ = [some (.lst ((x :: xs).map dR)), some (dR (((x :: xs).take i).foldl mxR x)), c2] ∧ cs = cs') ⟨_, rfl, rfl⟩ ?_ ?_
      · rintro i r ρ cs' N hd ⟨c2, rfl, rfl⟩ hN
        have hr := hs r (List.mem_of_getElem? hd)
        have hm : Sz 4000 (((x :: xs).take i).foldl mxR x) := by
          have := (fold_is ((x :: xs).take i) x).mem
          refine hs _ ?_
          rcases List.mem_cons.mp this with e | e
          · rw [e]; exact List.mem_cons_self ..
          · exact List.mem_of_mem_take e
        walk_at "GO"
        have ef := fold_take (x := x) hd
        refine ⟨fun hk => ?_, fun hk => ?_⟩
        · walk_at "GO"
          rw [mxR_pos (decT hk)] at ef
          exact hN _ _ ⟨_, by rw [ef]; rfl, rfl⟩
        · walk_at "GO"
          rw [mxR_neg (decF hk)] at ef
          exact hN _ _ ⟨_, by rw [ef]; rfl, rfl⟩
      · rintro ρ cs' ⟨c2, rfl, rfl⟩
        walk_at "GO"
        rw [List.take_length, fold_head]
        exact h
local macro_rules | `(tactic| walk_at "cl") => `(tactic| (first | ((with_reducible apply r_law_most); (assumption); (assumption))))
def sp_law_pick : DSp := fun ds cs P _ => ∃ (p : Addr) (xs : List D), (ds = [.opq (.ref p), .lst xs] ∨ ds = [.opq (.ref p), .tup xs]) ∧ 0 < xs.length ∧ xs.length < 100000 ∧ BagIn p cs ∧ ∀ x cs', x ∈ xs → BagStep p cs cs' → P x cs'
theorem r_law_pick {p : Addr} {xs : List D} {cs : Cs} {P : DP} {Z : XZ} (h0 : 0 < xs.length) (h1 : xs.length < 100000) (hb : BagIn p cs) (h : ∀ x cs', x ∈ xs → BagStep p cs cs' → P x cs') : sp_law_pick [.opq (.ref p), .lst xs] cs P Z := ⟨p, xs, .inl rfl, h0, h1, hb, h⟩
theorem sc_law_pick : FnScope ["_law_bag_here", "_law_some"] ["_law_bag_here", "_law_some"] (defScope s_law_pick) := ⟨rfl, rfl, rfl, by decide +kernel, rfl, by decide +kernel, by decide +kernel⟩
theorem ok_law_pick {P : Program} {w : World} {K : PySem.W.Frag} {mg : Str → Option Value} {base : Heap} (T : Txt K mg base) : FnOk P w K mg base (L2.CX P w) 2 (He.ga K "_law_pick") T.fd_law_pick ["_law_bag_here", "_law_some"] (spL K 2 sp_law_pick) := by
  apply ok_def (k := 1) T.F_law_pick sc_law_pick
  case hb =>
    intro cdv A outer s H E hr
    exact (dss_one (ds_ret (d_sub_ix (d_var 1) (d_callN (ok_law_get T) (hr.mono (by decide)) rfl T.g_law_get T.F_law_get.kp (b_law_get T) takesD (da_cons (d_var 0) (da_cons (d_callB call_len_seq adq_len rfl T.n_len (by decide +kernel) (da_cons (d_var 1) da_nil)) da_nil))))))
  case hsp =>
    skip
    rintro ds cs Q Z ⟨p, xs, hds, h0, h1, hb, h⟩ _
    rcases hds with rfl | rfl
    all_goals
      show (_ : WS) (finD Q Z) [some _, some _] cs
      walk_at "go"
      refine ⟨p, (xs.length : Int), rfl, by omega, by omega, hb, fun r cs1 r0 r1 st => ?_⟩
      obtain ⟨x, hx, e⟩ := atD_mem r0 r1
      first
        | exact r_ixL e (h _ _ hx st)
        | exact r_ixT e (h _ _ hx st)
local macro_rules | `(tactic| walk_at "cl") => `(tactic| (first | ((with_reducible apply r_law_pick); (walk_at "in"); (walk_at "in"); (walk_at "bg"))))
def sp_law_bent_tuple : Nat → DSp
  | 0 => fun _ _ _ _ => False
  | n + 1 => fun ds cs P _ => ∃ (p : Addr) (d : D) (N L : Nat) (deep : Int), ds = [.opq (.ref p), d, .int deep] ∧ Fw N L d ∧ 0 ≤ deep ∧ deep ≤ n ∧ deep + 4 ≤ N ∧ N ≤ 20 ∧ 3 ≤ L ∧ L ≤ 1000 ∧ BagIn p cs ∧ ∀ d' cs', Fw N (L + 1) d' → BagStep p cs cs' → P d' cs'
theorem r_law_bent_tuple {p : Addr} {d : D} {N L : Nat} {deep : Int} {cs : Cs} {P : DP} {Z : XZ} (hd : Fw N L d) (d0 : 0 ≤ deep) (d1 : deep ≤ 6) (d2 : deep + 4 ≤ N) (n1 : N ≤ 20) (l0 : 3 ≤ L) (l1 : L ≤ 1000) (hb : BagIn p cs) (h : ∀ d' cs', Fw N (L + 1) d' → BagStep p cs cs' → P d' cs') : sp_law_bent_tuple 7 [.opq (.ref p), d, .int deep] cs P Z := ⟨p, d, N, L, deep, rfl, hd, d0, d1, d2, n1, l0, l1, hb, h⟩
theorem sc_law_bent_tuple : FnScope ["_law_bag_here", "_law_told", "_law_deep", "_law_at", "_law_kind"] ["_law_bag_here", "_law_told", "_law_deep"] (defScope s_law_bent_tuple) := ⟨rfl, rfl, rfl, by decide +kernel, rfl, by decide +kernel, by decide +kernel⟩
theorem ok_law_bent_tuple {P : Program} {w : World} {K : PySem.W.Frag} {mg : Str → Option Value} {base : Heap} (T : Txt K mg base) (n : Nat) : FnOk P w K mg base (L2.CX P w) (n + 3) (He.ga K "_law_bent_tuple") T.fd_law_bent_tuple ["_law_bag_here", "_law_told", "_law_deep"] (spL K 3 (sp_law_bent_tuple n)) := by
  induction n with
  | zero => exact vacF
  | succ n G =>
  rw [show n + 1 + 3 = (n + 3) + 1 from by omega]
  apply ok_def (k := n + 3) T.F_law_bent_tuple sc_law_bent_tuple
  case hb =>
    intro cdv A outer s H E hr
    exact (dss_cons (ds_if (dt_w (dw_or (dt_not (dt_val (d_callB call_isi adq_isi rfl T.n_isinstance (by decide +kernel) (da_cons (d_var 1) (da_cons (d_ty (n := "tuple") rfl T.n_tuple (by decide +kernel)) da_nil))))) (dw_or (dt_eq hr.units (d_var 1) (d_tup da_nil)) (dw_or (dt_eq hr.units (d_var 2) d_int) (dw_or1 (dt_eq hr.units (d_callN (ok_law_get T) (hr.mono (by omega)) rfl T.g_law_get T.F_law_get.kp (b_law_get T) takesD (da_cons (d_var 0) (da_cons d_int da_nil))) d_int)))))) (dss_one (ds_ret (d_callN (ok_law_pick T) (hr.mono (by omega)) rfl T.g_law_pick T.F_law_pick.kp (b_law_pick T) takesD (da_cons (d_var 0) (da_cons (d_lst (da_cons (d_tup da_nil) (da_cons d_int (da_cons d_int (da_cons d_int (da_cons d_non (da_cons d_str (da_cons (d_tup (da_cons d_int (da_cons (d_tup da_nil) da_nil))) (da_cons (d_tup (da_cons (d_tup (da_cons d_int (da_cons (d_tup da_nil) da_nil))) (da_cons (d_tup (da_cons d_int (da_cons (d_tup da_nil) da_nil))) da_nil))) (da_cons d_bl da_nil)))))))))) da_nil))))) dss_nil)
      (dss_cons (ds_set (i := 3) sc_law_bent_tuple.nd rfl (Or.inl rfl) (d_callN (ok_law_get T) (hr.mono (by omega)) rfl T.g_law_get T.F_law_get.kp (b_law_get T) takesD (da_cons (d_var 0) (da_cons (d_callB call_len_seq adq_len rfl T.n_len (by decide +kernel) (da_cons (d_var 1) da_nil)) da_nil))))
      (dss_cons (ds_set (i := 4) sc_law_bent_tuple.nd rfl (Or.inl rfl) (d_callN (ok_law_get T) (hr.mono (by omega)) rfl T.g_law_get T.F_law_get.kp (b_law_get T) takesD (da_cons (d_var 0) (da_cons d_int da_nil))))
      (dss_cons (ds_if (dt_eq hr.units (d_var 4) d_int) (dss_one (ds_ret (d_catT (d_slice sl_tupA adq_slT (d_var 1) do_none (do_some (d_var 3))) (d_slice sl_tupA adq_slT (d_var 1) (do_some (d_add (d_var 3) d_int)) do_none)))) dss_nil)
      (dss_cons (ds_if (dt_eq hr.units (d_var 4) d_int) (dss_one (ds_ret (d_catT (d_var 1) (d_slice sl_tupA adq_slT (d_var 1) (do_some (d_var 3)) (do_some (d_add (d_var 3) d_int)))))) dss_nil)
      (dss_one (ds_ret (d_catT (d_catT (d_slice sl_tupA adq_slT (d_var 1) do_none (do_some (d_var 3))) (d_tup (da_cons (d_callN G hr rfl T.g_law_bent_tuple T.F_law_bent_tuple.kp (b_law_bent_tuple T) takesD (da_cons (d_var 0) (da_cons (d_sub_ix (d_var 1) (d_var 3)) (da_cons (d_sub (d_var 2) d_int) da_nil)))) da_nil))) (d_slice sl_tupA adq_slT (d_var 1) (do_some (d_add (d_var 3) d_int)) do_none)))))))))
  case hsp =>
    skip
    rintro ds cs Q Z ⟨p, d, N, L, deep, rfl, hd, d0, d1, d2, n1, l0, l1, hb, h⟩ _
    have pd : plD 20 d = true := plD_mono d hd.p (by omega)
    have pick : ∀ x ∈ [D.tup [], .int 0, .int 1, .int 2, .non, .str "down", .tup [.int 0, .tup []], .tup [.tup [.int 0, .tup []], .tup [.int 1, .tup []]], .bl true], Fw N (L + 1) x := fun x hx => by
      simp only [List.mem_cons, List.not_mem_nil, or_false] at hx
      rcases hx with rfl | rfl | rfl | rfl | rfl | rfl | rfl | rfl | rfl <;> exact fw_dec (by decide) (by decide) (by omega) (by omega)
    show (_ : WS) (finD Q Z) [some _, some _, some _, none, none] cs
    cases d <;> try first
      | exact (plD_bad pd rfl).elim
      | (walk_at "GO"; intro x cs1 hx st; exact h x cs1 (pick x hx) st)
    rename_i xs hlen
    obtain ⟨M, rfl⟩ : ∃ M, N = M + 1 := ⟨N - 1, by omega⟩
    obtain ⟨hxl, hx⟩ := hd.tup
    walk_at "GO"
    refine r_eqNilT pd (fun e => ?_) (fun e => ?_)
    · walk_at "GO"
      intro x cs1 hx st
      exact h x cs1 (pick x hx) st
    walk_at "GO"
    have x0 : 0 < xs.length := by
      cases xs with
      | nil => exact absurd rfl e
      | cons x xs => exact Nat.succ_pos _
    refine ⟨fun hz => ?_, fun hz => ?_⟩
    · walk_at "GO"
      intro x cs1 hx st
      exact h x cs1 (pick x hx) st
    have dz := decF hz
    walk_at "GO"
    intro g cs1 g0 g1 st1
    walk_at "GO"
    refine ⟨fun hz => ?_, fun hz => ?_⟩
    · walk_at "GO"
      intro x cs2 hx st
      exact h x cs2 (pick x hx) (st1.trans st)
    walk_at "GO"
    intro a cs2 a0 a1 st2
    walk_at "GO"
    intro kd cs3 k0 k1 st3
    have st := (st1.trans st2).trans st3
    have hb3 := st.bag
    clear st1 st2 st3
    obtain ⟨c, rfl⟩ : ∃ c : Nat, a = c := ⟨a.toNat, by omega⟩
    have e1 : DL.cutD xs none (some (c : Int)) = xs.take c := by rw [cutD_pre (by omega) (by omega)]; rfl
    have e2 : DL.cutD xs (some ((c : Int) + 1)) none = xs.drop (c + 1) := by rw [cutD_suf (by omega) (by omega)]; rfl
    have e3 : DL.cutD xs (some (c : Int)) (some ((c : Int) + 1)) = (xs.drop c).take 1 := by rw [cutD_int (by omega) (by omega) (by omega), show ((c : Int) + 1 - c).toNat = 1 by omega]; rfl
    have fin : ∀ ys : List D, ys.length ≤ L + 1 → (∀ y ∈ ys, Fw M (L + 1) y) → Fw (M + 1) (L + 1) (.tup ys) := fun ys h1 h2 => Fw.mk_tup (by omega) h1 h2
    have up : ∀ x ∈ xs, Fw M (L + 1) x := fun x hx' => (hx x hx').mono (by omega)
    walk_at "GO"
    refine ⟨fun hz => ?_, fun hz => ?_⟩
    · walk_at "GO"
      rw [e1]
      walk_at "GO"
      rw [e2]
      refine r_catT (by rw [List.length_take, List.length_drop]; omega) ?_
      refine h _ _ (fin _ (by rw [List.length_append, List.length_take, List.length_drop]; omega) fun y hy => ?_) st
      rcases List.mem_append.mp hy with hy | hy
      · exact up y (List.mem_of_mem_take hy)
      · exact up y (List.mem_of_mem_drop hy)
    walk_at "GO"
    refine ⟨fun hz => ?_, fun hz => ?_⟩
    · walk_at "GO"
      rw [e3]
      refine r_catT (by rw [List.length_take, List.length_drop]; omega) ?_
      refine h _ _ (fin _ (by rw [List.length_append, List.length_take, List.length_drop]; omega) fun y hy => ?_) st
      rcases List.mem_append.mp hy with hy | hy
      · exact up y hy
      · exact up y (List.mem_of_mem_drop (List.mem_of_mem_take hy))
    obtain ⟨m, rfl⟩ : ∃ m, n = m + 1 := ⟨n - 1, by omega⟩
    walk_at "GO"
    rw [e1]
    walk_at "GO"
    refine r_ixT (atI_nat (List.getElem?_eq_getElem (show c < xs.length by omega))) ?_
    walk_at "GO"
    refine ⟨p, _, M, L, deep - 1, rfl, hx _ (List.getElem_mem _), by omega, by omega, by omega, by omega, l0, l1, hb3, fun d' cs4 hd' st4 => ?_⟩
    walk_at "GO"
    refine r_catT (by rw [e2, List.length_append, List.length_take, List.length_drop]; show _ + 1 + _ ≤ _; omega) ?_
    rw [e2]
    refine h _ _ (fin _ (by rw [List.length_append, List.length_append, List.length_take, List.length_drop]; show _ + 1 + _ ≤ _; omega) fun y hy => ?_) (st.trans st4)
    rcases List.mem_append.mp hy with hy | hy
    · rcases List.mem_append.mp hy with hy | hy
      · exact up y (List.mem_of_mem_take hy)
      · rw [List.mem_singleton.mp hy]; exact hd'
    · exact up y (List.mem_of_mem_drop hy)
local macro_rules | `(tactic| walk_at "cl") => `(tactic| (first | ((with_reducible apply r_law_bent_tuple); (assumption); (walk_at "in"); (walk_at "in"); (walk_at "in"); (walk_at "in"); (walk_at "in"); (walk_at "in"); (walk_at "bg"))))
def sp_law_small_box : DSp := fun ds cs P _ => ∃ (p : Addr), ds = [.opq (.ref p)] ∧ BagIn p cs ∧ ∀ (l t w h : Rat) cs', BoxOk l t w h → BagStep p cs cs' → P (dB l t w h) cs'
theorem sc_law_small_box : FnScope ["_law_bag_here", "_law_x", "_law_y"] ["_law_bag_here"] (defScope s_law_small_box) := ⟨rfl, rfl, rfl, by decide +kernel, rfl, by decide +kernel, by decide +kernel⟩
theorem ok_law_small_box {P : Program} {w : World} {K : PySem.W.Frag} {mg : Str → Option Value} {base : Heap} (T : Txt K mg base) : FnOk P w K mg base (L2.CX P w) 2 (He.ga K "_law_small_box") T.fd_law_small_box ["_law_bag_here"] (spL K 1 sp_law_small_box) := by
  apply ok_def (k := 1) T.F_law_small_box sc_law_small_box
  case hb =>
    intro cdv A outer s H E hr
    exact (dss_cons (ds_par (i := 1) (j := 2) rfl sc_law_small_box.nd rfl rfl (by decide) rfl rfl (da_cons (d_sub (d_callN (ok_law_get T) (hr.mono (by decide)) rfl T.g_law_get T.F_law_get.kp (b_law_get T) takesD (da_cons (d_var 0) (da_cons d_int da_nil))) d_int) (da_cons (d_sub (d_callN (ok_law_get T) (hr.mono (by decide)) rfl T.g_law_get T.F_law_get.kp (b_law_get T) takesD (da_cons (d_var 0) (da_cons d_int da_nil))) d_int) da_nil)))
      (dss_one (ds_ret (d_tup (da_cons (d_tup (da_cons (d_var 1) (da_cons d_int da_nil))) (da_cons (d_tup (da_cons (d_var 2) (da_cons d_int da_nil))) (da_cons (d_tup (da_cons (d_add d_int (d_callN (ok_law_get T) (hr.mono (by decide)) rfl T.g_law_get T.F_law_get.kp (b_law_get T) takesD (da_cons (d_var 0) (da_cons d_int da_nil)))) (da_cons d_int da_nil))) (da_cons (d_tup (da_cons (d_add d_int (d_callN (ok_law_get T) (hr.mono (by decide)) rfl T.g_law_get T.F_law_get.kp (b_law_get T) takesD (da_cons (d_var 0) (da_cons d_int da_nil)))) (da_cons d_int da_nil))) da_nil))))))))
  case hsp =>
    skip
    rintro ds cs Q Z ⟨p, rfl, hb, h⟩ _
    show (_ : WS) (finD Q Z) [some _, none, none] cs
    walk_at "go"
    refine ⟨p, 30, rfl, by decide, by decide, hb, fun a cs1 a0 a1 st1 => ?_⟩
    walk_at "go"
    refine ⟨p, 30, rfl, by decide, by decide, st1.bag, fun b cs2 b0 b1 st2 => ?_⟩
    walk_at "go"
    refine ⟨p, 40, rfl, by decide, by decide, st2.bag, fun c cs3 c0 c1 st3 => ?_⟩
    walk_at "go"
    refine ⟨p, 40, rfl, by decide, by decide, st3.bag, fun d cs4 d0 d1 st4 => ?_⟩
    walk_at "go"
    exact h (a - 9 : Int) (b - 9 : Int) (1 + c : Int) (1 + d : Int) _ ⟨Sz.ofInt (by omega) (by decide), Sz.ofInt (by omega) (by decide), Sz.ofInt (by omega) (by decide), Sz.ofInt (by omega) (by decide), ofInt_pos (by omega), ofInt_pos (by omega)⟩ (((st1.trans st2).trans st3).trans st4)
def sp_law_far : DSp := fun ds cs P _ => ∃ (p : Addr) (n : Nat), ds = [.opq (.ref p), .int (n : Int)] ∧ n ≤ 20 ∧ BagIn p cs ∧ ∀ r cs', 0 ≤ r → r < 1000 ^ n → BagStep p cs cs' → P (.int r) cs'
theorem sc_law_far : FnScope ["_law_bag_here", "_law_steps", "_law_found", "_law_step"] ["_law_bag_here", "_law_steps"] (defScope s_law_far) := ⟨rfl, rfl, rfl, by decide +kernel, rfl, by decide +kernel, by decide +kernel⟩
theorem ok_law_far {P : Program} {w : World} {K : PySem.W.Frag} {mg : Str → Option Value} {base : Heap} (T : Txt K mg base) : FnOk P w K mg base (L2.CX P w) 2 (He.ga K "_law_far") T.fd_law_far ["_law_bag_here", "_law_steps"] (spL K 2 sp_law_far) := by
  apply ok_def (k := 1) T.F_law_far sc_law_far
  case hb =>
    intro cdv A outer s H E hr
    exact (dss_cons (ds_set (i := 2) sc_law_far.nd rfl (Or.inl rfl) d_int)
      (dss_cons (ds_for passD rfl (di_range1 rfl T.n_range (da_cons (d_var 1) da_nil)) (dg_name (i := 3) sc_law_far.nd rfl (Or.inl rfl)) (dss_one (ds_set (i := 2) sc_law_far.nd rfl (Or.inl rfl) (d_add (d_mul (d_var 2) d_int) (d_callN (ok_law_get T) (hr.mono (by decide)) rfl T.g_law_get T.F_law_get.kp (b_law_get T) takesD (da_cons (d_var 0) (da_cons d_int da_nil)))))))
      (dss_one (ds_ret (d_var 2)))))
  case hsp =>
    skip
    rintro ds cs Q Z ⟨p, n, rfl, hn, hb, h⟩ _
    show (_ : WS) (finD Q Z) [some _, some _, none, none] cs
    walk_at "go"
    refine ⟨⟨by omega, by omega⟩, ?_⟩
    refine r_loop0 (fun i ρ cs' => ∃ (r : Int) (c : Option D), ρ = [some (.opq (.ref p)), some (.int (n : Int)), some (.int r), c] ∧ 0 ≤ r ∧ r < 1000 ^ i ∧ BagStep p cs cs') ⟨0, none, rfl, by decide, by decide, BagStep.refl hb⟩ ?_ ?_
    · rintro i d ρ cs' N hd ⟨r, c, rfl, r0, r1, st⟩ hN
      obtain ⟨rfl, hi⟩ := rng_get hd
      walk_at "go"
      refine ⟨p, 1000, rfl, by decide, by decide, st.bag, fun g cs2 g0 g1 st2 => ?_⟩
      walk_at "go"
      refine hN _ _ ⟨_, _, rfl, by omega, ?_, st.trans st2⟩
      rw [Int.pow_succ]; omega
    · rintro ρ cs' ⟨r, c, rfl, r0, r1, st⟩
      walk_at "go"
      rw [rng_len, Int.toNat_natCast] at r1
      exact h _ _ r0 r1 st
def sp_law_number : DSp := fun ds cs P _ => ∃ (p : Addr), ds = [.opq (.ref p)] ∧ BagIn p cs ∧ ∀ (r : Int) cs', r.natAbs < 2 ^ 200 → BagStep p cs cs' → P (.int r) cs'
theorem r_law_number {p : Addr} {cs : Cs} {P : DP} {Z : XZ} (hb : BagIn p cs) (h : ∀ (r : Int) cs', r.natAbs < 2 ^ 200 → BagStep p cs cs' → P (.int r) cs') : sp_law_number [.opq (.ref p)] cs P Z := ⟨p, rfl, hb, h⟩
theorem sc_law_number : FnScope ["_law_bag_here", "_law_kind"] ["_law_bag_here"] (defScope s_law_number) := ⟨rfl, rfl, rfl, by decide +kernel, rfl, by decide +kernel, by decide +kernel⟩
theorem ok_law_number {P : Program} {w : World} {K : PySem.W.Frag} {mg : Str → Option Value} {base : Heap} (T : Txt K mg base) : FnOk P w K mg base (L2.CX P w) 3 (He.ga K "_law_number") T.fd_law_number ["_law_bag_here"] (spL K 1 sp_law_number) := by
  apply ok_def (k := 2) T.F_law_number sc_law_number
  case hb =>
    intro cdv A outer s H E hr
    exact (dss_cons (ds_set (i := 1) sc_law_number.nd rfl (Or.inl rfl) (d_callN (ok_law_get T) (hr.mono (by decide)) rfl T.g_law_get T.F_law_get.kp (b_law_get T) takesD (da_cons (d_var 0) (da_cons d_int da_nil))))
      (dss_cons (ds_if (dt_lt (d_var 1) d_int) (dss_one (ds_ret (d_sub (d_callN (ok_law_get T) (hr.mono (by decide)) rfl T.g_law_get T.F_law_get.kp (b_law_get T) takesD (da_cons (d_var 0) (da_cons d_int da_nil))) d_int))) dss_nil)
      (dss_cons (ds_if (dt_eq hr.units (d_var 1) d_int) (dss_one (ds_ret (d_sub (d_callN (ok_law_get T) (hr.mono (by decide)) rfl T.g_law_get T.F_law_get.kp (b_law_get T) takesD (da_cons (d_var 0) (da_cons d_int da_nil))) d_int))) dss_nil)
      (dss_one (ds_ret (d_mul (d_add (d_callN (ok_law_far T) (hr.mono (by decide)) rfl T.g_law_far T.F_law_far.kp (b_law_far T) takesD (da_cons (d_var 0) (da_cons (d_sub_ix (d_lst (da_cons d_int (da_cons d_int da_nil))) (d_sub (d_var 1) d_int)) da_nil))) d_int) (d_sub d_int (d_mul d_int (d_callN (ok_law_get T) (hr.mono (by decide)) rfl T.g_law_get T.F_law_get.kp (b_law_get T) takesD (da_cons (d_var 0) (da_cons d_int da_nil)))))))))))
  case hsp =>
    skip
    rintro ds cs Q Z ⟨p, rfl, hb, h⟩ _
    show (_ : WS) (finD Q Z) [some _, none] cs
    walk_at "go"
    refine ⟨p, 5, rfl, by decide, by decide, hb, fun k cs1 k0 k1 st1 => ?_⟩
    walk_at "go"
    refine ⟨fun hk => ?_, fun hk => ?_⟩
    · walk_at "go"
      refine ⟨p, 9, rfl, by decide, by decide, st1.bag, fun g cs2 g0 g1 st2 => ?_⟩
      walk_at "go"
      exact h _ _ (by omega) (st1.trans st2)
    · walk_at "go"
      refine ⟨fun hk2 => ?_, fun hk2 => ?_⟩
      · walk_at "go"
        refine ⟨p, 2001, rfl, by decide, by decide, st1.bag, fun g cs2 g0 g1 st2 => ?_⟩
        walk_at "go"
        exact h _ _ (by omega) (st1.trans st2)
      · have a1 := decF hk
        have a2 := decF hk2
        have key : ∃ n : Nat, n ≤ 20 ∧ atD [.int 3, .int 20] (k - 3) = some (.int (n : Int)) := by
          rcases (show k = 3 ∨ k = 4 by omega) with e | e
          · exact ⟨3, by decide, by rw [e] <;> rfl⟩
          · exact ⟨20, by decide, by rw [e] <;> rfl⟩
        obtain ⟨n, hn, e⟩ := key
        walk_at "go"
        refine r_ixL e ?_
        walk_at "go"
        refine ⟨p, n, rfl, by omega, st1.bag, fun r cs2 r0 r1 st2 => ?_⟩
        have r2 : r < 1000 ^ 20 := Int.lt_of_lt_of_le r1 (p1000 hn)
        walk_at "go"
        refine ⟨p, 2, rfl, by decide, by decide, st2.bag, fun g cs3 g0 g1 st3 => ?_⟩
        walk_at "go"
        refine h _ _ ?_ ((st1.trans st2).trans st3)
        rcases (show g = 0 ∨ g = 1 by omega) with e | e
        · rw [e]; omega
        · rw [e]; omega
local macro_rules | `(tactic| walk_at "cl") => `(tactic| (first | ((with_reducible apply r_law_number); (walk_at "bg"))))
def sp_law_some_part : DSp := fun ds cs P _ => ∃ (p : Addr), ds = [.opq (.ref p)] ∧ BagIn p cs ∧ ∀ (r : Rat) cs', Sz 201 r → BagStep p cs cs' → P (dR r) cs'
theorem r_law_some_part {p : Addr} {cs : Cs} {P : DP} {Z : XZ} (hb : BagIn p cs) (h : ∀ (r : Rat) cs', Sz 201 r → BagStep p cs cs' → P (dR r) cs') : sp_law_some_part [.opq (.ref p)] cs P Z := ⟨p, rfl, hb, h⟩
theorem sc_law_some_part : FnScope ["_law_bag_here", "_law_below"] ["_law_bag_here"] (defScope s_law_some_part) := ⟨rfl, rfl, rfl, by decide +kernel, rfl, by decide +kernel, by decide +kernel⟩
theorem ok_law_some_part {P : Program} {w : World} {K : PySem.W.Frag} {mg : Str → Option Value} {base : Heap} (T : Txt K mg base) : FnOk P w K mg base (L2.CX P w) 4 (He.ga K "_law_some_part") T.fd_law_some_part ["_law_bag_here"] (spL K 1 sp_law_some_part) := by
  apply ok_def (k := 3) T.F_law_some_part sc_law_some_part
  case hb =>
    intro cdv A outer s H E hr
    exact (dss_cons (ds_set (i := 1) sc_law_some_part.nd rfl (Or.inl rfl) (d_add (d_callB call_abs adq_abs rfl T.n_abs (by decide +kernel) (da_cons (d_callN (ok_law_number T) (hr.mono (by decide)) rfl T.g_law_number T.F_law_number.kp (b_law_number T) takesD (da_cons (d_var 0) da_nil)) da_nil)) d_int))
      (dss_one (ds_ret (d_callN (ok_law_part T) (hr.mono (by decide)) rfl T.g_law_part T.F_law_part.kp (b_law_part T) takesD (da_cons (d_callN (ok_law_number T) (hr.mono (by decide)) rfl T.g_law_number T.F_law_number.kp (b_law_number T) takesD (da_cons (d_var 0) da_nil)) (da_cons (d_if (dt_gt (d_callN (ok_law_get T) (hr.mono (by decide)) rfl T.g_law_get T.F_law_get.kp (b_law_get T) takesD (da_cons (d_var 0) (da_cons d_int da_nil))) d_int) (d_var 1) d_int) da_nil))))))
  case hsp =>
    skip
    rintro ds cs Q Z ⟨p, rfl, hb, h⟩ _
    show (_ : WS) (finD Q Z) [some _, none] cs
    walk_at "go"
    refine ⟨p, rfl, hb, fun a cs1 a1 st1 => ?_⟩
    walk_at "go"
    refine ⟨p, rfl, st1.bag, fun b cs2 b1 st2 => ?_⟩
    walk_at "go"
    refine ⟨p, 3, rfl, by decide, by decide, st2.bag, fun g cs3 g0 g1 st3 => ?_⟩
    walk_at "go"
    have st := (st1.trans st2).trans st3
    have big : ∀ c : Int, 0 < c → c < 2 ^ 201 → b.natAbs < 2 ^ 201 ∧ c.natAbs < 2 ^ 201 := fun c h1 h2 => ⟨by omega, by omega⟩
    have fin : ∀ c : Int, 0 < c → c < 2 ^ 201 → sp_law_part [.int b, .int c] cs3 Q (fun x cs1 => Z x cs1) := fun c h1 h2 => by
      obtain ⟨e1, e2⟩ := big c h1 h2
      exact ⟨b, c, rfl, by omega, Nat.lt_of_lt_of_le e2 (Nat.pow_le_pow_right (by decide) (by decide)), h _ _ (Sz.divInt (n := 201) (m := 201) (by omega) e1 e2 (Nat.le_refl _)) st⟩
    refine ⟨fun hk => ?_, fun hk => ?_⟩
    · walk_at "go"
      exact fin _ (by split <;> omega) (by split <;> omega)
    · walk_at "go"
      exact fin 1 (by decide) (by decide)
local macro_rules | `(tactic| walk_at "cl") => `(tactic| (first | ((with_reducible apply r_law_some_part); (walk_at "bg"))))
def sp_law_above : DSp := fun ds cs P _ => ∃ (p : Addr), ds = [.opq (.ref p)] ∧ BagIn p cs ∧ ∀ (r : Rat) cs', Sz 202 r → 0 < r → BagStep p cs cs' → P (dR r) cs'
theorem r_law_above {p : Addr} {cs : Cs} {P : DP} {Z : XZ} (hb : BagIn p cs) (h : ∀ (r : Rat) cs', Sz 202 r → 0 < r → BagStep p cs cs' → P (dR r) cs') : sp_law_above [.opq (.ref p)] cs P Z := ⟨p, rfl, hb, h⟩
theorem sc_law_above : FnScope ["_law_bag_here", "_law_one"] ["_law_bag_here"] (defScope s_law_above) := ⟨rfl, rfl, rfl, by decide +kernel, rfl, by decide +kernel, by decide +kernel⟩
theorem ok_law_above {P : Program} {w : World} {K : PySem.W.Frag} {mg : Str → Option Value} {base : Heap} (T : Txt K mg base) : FnOk P w K mg base (L2.CX P w) 5 (He.ga K "_law_above") T.fd_law_above ["_law_bag_here"] (spL K 1 sp_law_above) := by
  apply ok_def (k := 4) T.F_law_above sc_law_above
  case hb =>
    intro cdv A outer s H E hr
    exact (dss_cons (ds_set (i := 1) sc_law_above.nd rfl (Or.inl rfl) (d_callN (ok_law_some_part T) (hr.mono (by decide)) rfl T.g_law_some_part T.F_law_some_part.kp (b_law_some_part T) takesD (da_cons (d_var 0) da_nil)))
      (dss_one (ds_ret (d_callN (ok_law_part T) (hr.mono (by decide)) rfl T.g_law_part T.F_law_part.kp (b_law_part T) takesD (da_cons (d_add (d_callB call_abs adq_abs rfl T.n_abs (by decide +kernel) (da_cons (d_sub_ix (d_var 1) d_int) da_nil)) d_int) (da_cons (d_sub_ix (d_var 1) d_int) da_nil))))))
  case hsp =>
    skip
    rintro ds cs Q Z ⟨p, rfl, hb, h⟩ _
    show (_ : WS) (finD Q Z) [some _, none] cs
    walk_at "go"
    refine ⟨p, rfl, hb, fun r cs1 hr st1 => ?_⟩
    walk_at "go"
    rw [abs_nat]
    have hd := den_pos r
    have s1 : ((r.num.natAbs : Int) + 1).natAbs < 2 ^ 202 := by
      have := hr.1
      have e : (2 : Nat) ^ 202 = 2 ^ 201 * 2 := rfl
      omega
    have s2 : (r.den : Int).natAbs < 2 ^ 202 := by
      have := hr.2
      have e : (2 : Nat) ^ 202 = 2 ^ 201 * 2 := rfl
      omega
    refine ⟨_, _, rfl, by omega, Nat.lt_of_lt_of_le s2 (Nat.pow_le_pow_right (by decide) (by decide)), ?_⟩
    refine h _ _ (Sz.divInt (n := 202) (by omega) s1 s2 (Nat.le_refl _)) ?_ st1
    refine Rat.not_le.mp fun q => ?_
    have q2 : 0 ≤ Rat.divInt ((r.num.natAbs : Int) + 1) (r.den : Int) := Rat.divInt_nonneg (by omega) (by omega)
    have q3 := Rat.le_antisymm q q2
    rw [Rat.divInt_ofNat, Rat.mkRat_eq_zero r.den_nz] at q3
    omega
local macro_rules | `(tactic| walk_at "cl") => `(tactic| (first | ((with_reducible apply r_law_above); (walk_at "bg"))))
def sp_law_box : DSp := fun ds cs P _ => ∃ (p : Addr), ds = [.opq (.ref p)] ∧ BagIn p cs ∧ ∀ (l t w h : Rat) cs', BoxOk l t w h → BagStep p cs cs' → P (dB l t w h) cs'
theorem r_law_box {p : Addr} {cs : Cs} {P : DP} {Z : XZ} (hb : BagIn p cs) (h : ∀ (b : Bx) cs', b.Pos → b.Sz 202 → BagStep p cs cs' → P b.d cs') : sp_law_box [.opq (.ref p)] cs P Z := ⟨p, rfl, hb, fun l t w hh cs' bk st => h ⟨l, t, w, hh⟩ cs' ⟨bk.pw, bk.ph⟩ ⟨bk.sl, bk.st, bk.sw, bk.sh⟩ st⟩
theorem sc_law_box : FnScope ["_law_bag_here"] ["_law_bag_here"] (defScope s_law_box) := ⟨rfl, rfl, rfl, by decide +kernel, rfl, by decide +kernel, by decide +kernel⟩
theorem ok_law_box {P : Program} {w : World} {K : PySem.W.Frag} {mg : Str → Option Value} {base : Heap} (T : Txt K mg base) : FnOk P w K mg base (L2.CX P w) 6 (He.ga K "_law_box") T.fd_law_box ["_law_bag_here"] (spL K 1 sp_law_box) := by
  apply ok_def (k := 5) T.F_law_box sc_law_box
  case hb =>
    intro cdv A outer s H E hr
    exact (dss_cons (ds_if (dt_eq hr.units (d_callN (ok_law_get T) (hr.mono (by decide)) rfl T.g_law_get T.F_law_get.kp (b_law_get T) takesD (da_cons (d_var 0) (da_cons d_int da_nil))) d_int) (dss_one (ds_ret (d_callN (ok_law_small_box T) (hr.mono (by decide)) rfl T.g_law_small_box T.F_law_small_box.kp (b_law_small_box T) takesD (da_cons (d_var 0) da_nil)))) dss_nil)
      (dss_one (ds_ret (d_tup (da_cons (d_callN (ok_law_some_part T) (hr.mono (by decide)) rfl T.g_law_some_part T.F_law_some_part.kp (b_law_some_part T) takesD (da_cons (d_var 0) da_nil)) (da_cons (d_callN (ok_law_some_part T) (hr.mono (by decide)) rfl T.g_law_some_part T.F_law_some_part.kp (b_law_some_part T) takesD (da_cons (d_var 0) da_nil)) (da_cons (d_callN (ok_law_above T) (hr.mono (by decide)) rfl T.g_law_above T.F_law_above.kp (b_law_above T) takesD (da_cons (d_var 0) da_nil)) (da_cons (d_callN (ok_law_above T) (hr.mono (by decide)) rfl T.g_law_above T.F_law_above.kp (b_law_above T) takesD (da_cons (d_var 0) da_nil)) da_nil))))))))
  case hsp =>
    skip
    rintro ds cs Q Z ⟨p, rfl, hb, h⟩ _
    show (_ : WS) (finD Q Z) [some _] cs
    walk_at "go"
    refine ⟨p, 2, rfl, by decide, by decide, hb, fun a cs1 a0 a1 st1 => ?_⟩
    walk_at "go"
    refine ⟨fun hk => ?_, fun hk => ?_⟩
    · walk_at "go"
      exact ⟨p, rfl, st1.bag, fun l t wd hg cs2 bk st2 => h l t wd hg cs2 bk (st1.trans st2)⟩
    · walk_at "go"
      refine ⟨p, rfl, st1.bag, fun l cs2 sl st2 => ?_⟩
      walk_at "go"
      refine ⟨p, rfl, st2.bag, fun t cs3 st st3 => ?_⟩
      walk_at "go"
      refine ⟨p, rfl, st3.bag, fun wd cs4 sw pw st4 => ?_⟩
      walk_at "go"
      refine ⟨p, rfl, st4.bag, fun hg cs5 sh ph st5 => ?_⟩
      walk_at "go"
      exact h l t wd hg _ ⟨sl.mono (by decide), st.mono (by decide), sw, sh, pw, ph⟩ ((((st1.trans st2).trans st3).trans st4).trans st5)
local macro_rules | `(tactic| walk_at "cl") => `(tactic| (first | ((with_reducible apply r_law_box); (walk_at "bg"))))
def sp_law_weight : DSp := fun ds cs P _ => ∃ (p : Addr) (k : Int), ds = [.opq (.ref p), .int k] ∧ BagIn p cs ∧ ∀ w cs', 1 ≤ w → w ≤ 400000 → BagStep p cs cs' → P (.int w) cs'
theorem sc_law_weight : FnScope ["_law_bag_here", "_law_kind"] ["_law_bag_here", "_law_kind"] (defScope s_law_weight) := ⟨rfl, rfl, rfl, by decide +kernel, rfl, by decide +kernel, by decide +kernel⟩
theorem ok_law_weight {P : Program} {w : World} {K : PySem.W.Frag} {mg : Str → Option Value} {base : Heap} (T : Txt K mg base) : FnOk P w K mg base (L2.CX P w) 2 (He.ga K "_law_weight") T.fd_law_weight ["_law_bag_here", "_law_kind"] (spL K 2 sp_law_weight) := by
  apply ok_def (k := 1) T.F_law_weight sc_law_weight
  case hb =>
    intro cdv A outer s H E hr
    exact (dss_cons (ds_if (dt_eq hr.units (d_var 1) d_int) (dss_one (ds_ret (d_add d_int (d_callN (ok_law_get T) (hr.mono (by decide)) rfl T.g_law_get T.F_law_get.kp (b_law_get T) takesD (da_cons (d_var 0) (da_cons d_int da_nil)))))) dss_nil)
      (dss_cons (ds_if (dt_eq hr.units (d_var 1) d_int) (dss_one (ds_ret (d_add d_int (d_callN (ok_law_get T) (hr.mono (by decide)) rfl T.g_law_get T.F_law_get.kp (b_law_get T) takesD (da_cons (d_var 0) (da_cons d_int da_nil)))))) dss_nil)
      (dss_cons (ds_if (dt_eq hr.units (d_var 1) d_int) (dss_one (ds_ret d_int)) dss_nil)
      (dss_one (ds_ret (d_sub_ix (d_lst (da_cons d_int (da_cons d_int (da_cons d_int (da_cons d_int (da_cons d_int da_nil)))))) (d_callN (ok_law_get T) (hr.mono (by decide)) rfl T.g_law_get T.F_law_get.kp (b_law_get T) takesD (da_cons (d_var 0) (da_cons d_int da_nil)))))))))
  case hsp =>
    skip
    rintro ds cs Q Z ⟨p, k, rfl, hb, h⟩ _
    show (_ : WS) (finD Q Z) [some _, some _] cs
    walk_at "go"
    refine ⟨fun _ => ?_, fun _ => ?_⟩
    · walk_at "go"
      refine ⟨p, 5, rfl, by decide, by decide, hb, fun g cs1 g0 g1 st => ?_⟩
      walk_at "go"
      exact h _ _ (by omega) (by omega) st
    walk_at "go"
    refine ⟨fun _ => ?_, fun _ => ?_⟩
    · walk_at "go"
      refine ⟨p, 400000, rfl, by decide, by decide, hb, fun g cs1 g0 g1 st => ?_⟩
      walk_at "go"
      exact h _ _ (by omega) (by omega) st
    walk_at "go"
    refine ⟨fun _ => ?_, fun _ => ?_⟩
    · walk_at "go"
      exact h _ _ (by decide) (by decide) (BagStep.refl hb)
    walk_at "go"
    refine ⟨p, 5, rfl, by decide, by decide, hb, fun g cs1 g0 g1 st => ?_⟩
    have hg : g = 0 ∨ g = 1 ∨ g = 2 ∨ g = 3 ∨ g = 4 := by omega
    rcases hg with rfl | rfl | rfl | rfl | rfl
    all_goals
      walk_at "go"
      exact h _ _ (by decide) (by decide) st
def sp_law_weights : DSp := fun ds cs P _ => ∃ (p : Addr) (m : Int), ds = [.opq (.ref p), .int m] ∧ 1 ≤ m ∧ m ≤ 12 ∧ BagIn p cs ∧ ∀ ws cs', WtOk ws → (ws.length : Int) ≤ m → BagStep p cs cs' → P (.lst (ws.map D.int)) cs'
theorem r_law_weights {p : Addr} {m : Int} {cs : Cs} {P : DP} {Z : XZ} (m0 : 1 ≤ m) (m1 : m ≤ 12) (hb : BagIn p cs) (h : ∀ ws cs', WtOk ws → (ws.length : Int) ≤ m → BagStep p cs cs' → P (.lst (ws.map D.int)) cs') : sp_law_weights [.opq (.ref p), .int m] cs P Z := ⟨p, m, rfl, m0, m1, hb, h⟩
theorem sc_law_weights : FnScope ["_law_bag_here", "_law_most_here", "_law_many", "_law_kind", "_law_k"] ["_law_bag_here", "_law_most_here"] (defScope s_law_weights) := ⟨rfl, rfl, rfl, by decide +kernel, rfl, by decide +kernel, by decide +kernel⟩
theorem ok_law_weights {P : Program} {w : World} {K : PySem.W.Frag} {mg : Str → Option Value} {base : Heap} (T : Txt K mg base) : FnOk P w K mg base (L2.CX P w) 3 (He.ga K "_law_weights") T.fd_law_weights ["_law_bag_here", "_law_most_here"] (spL K 2 sp_law_weights) := by
  apply ok_def (k := 2) T.F_law_weights sc_law_weights
  case hb =>
    intro cdv A outer s H E hr
    exact (dss_cons (ds_asg (d_tup (da_cons (d_add d_int (d_callN (ok_law_get T) (hr.mono (by decide)) rfl T.g_law_get T.F_law_get.kp (b_law_get T) takesD (da_cons (d_var 0) (da_cons (d_var 1) da_nil)))) (da_cons (d_callN (ok_law_get T) (hr.mono (by decide)) rfl T.g_law_get T.F_law_get.kp (b_law_get T) takesD (da_cons (d_var 0) (da_cons d_int da_nil))) da_nil))) (dg_tup (n := 2) rfl (dgs_cons (dg_name (i := 2) sc_law_weights.nd rfl (Or.inl rfl)) (dgs_cons (dg_name (i := 3) sc_law_weights.nd rfl (Or.inr rfl)) dgs_nil))))
      (dss_one (ds_ret (d_lc rfl sc_law_weights.nd (di_range1 rfl T.n_range (da_cons (d_var 2) da_nil)) (blkOk_by (own := [("_law_k", 4)]) (N := ["_law_bag_here", "_law_most_here", "_law_many", "_law_kind", "_law_k"]) (sc := defScope s_law_weights) (by decide +kernel)) (gok_name (by decide)) (fun _ _ _ _ _ => (pg_name (i := 4) sc_law_weights.nd rfl (Or.inl rfl))) (fun _ _ _ _ _ => dts_nil) (fun _ _ _ _ _ => (d_callN (ok_law_weight T) (hr.mono (by decide)) rfl T.g_law_weight T.F_law_weight.kp (b_law_weight T) takes0 (da_cons (d_var 0) (da_cons (d_if (dt_lt (d_var 3) d_int) (d_var 3) (d_callN (ok_law_get T) (hr.mono (by decide)) rfl T.g_law_get T.F_law_get.kp (b_law_get T) takes0 (da_cons (d_var 0) (da_cons d_int da_nil)))) da_nil))))))))
  case hsp =>
    skip
    rintro ds cs Q Z ⟨p, m, rfl, m0, m1, hb, h⟩ _
    show (_ : WS) (finD Q Z) [some _, some _, none, none, none] cs
    walk_at "go"
    refine ⟨p, m, rfl, by omega, by omega, hb, fun g cs1 g0 g1 st => ?_⟩
    walk_at "go"
    refine ⟨p, 5, rfl, by decide, by decide, st.bag, fun k cs2 k0 k1 st2 => ?_⟩
    walk_at "go"
    refine ⟨⟨by omega, by omega⟩, by rw [rng_len]; omega, ?_⟩
    refine r_comp0 (fun i acc cs' => ∃ ws : List Int, acc = ws.map D.int ∧ ws.length = i ∧ (∀ w ∈ ws, 1 ≤ w ∧ w ≤ 400000) ∧ BagStep p cs cs') ⟨[], rfl, rfl, fun _ h => (nomatch h), st.trans st2⟩ ?_ ?_
    · rintro i d acc cs' N hd ⟨ws, rfl, hl, hr, st3⟩ hN
      have fin : ∀ w cs'', 1 ≤ w → w ≤ 400000 → BagStep p cs' cs'' → N (ws.map D.int ++ [.int w]) cs'' := fun w cs'' w0 w1 st4 =>
        hN _ _ ⟨ws ++ [w], by rw [List.map_append]; rfl, by rw [List.length_append, hl]; rfl, fun x hx => by
          rcases List.mem_append.mp hx with hx | hx
          · exact hr x hx
          · rw [List.mem_singleton.mp hx]; exact ⟨w0, w1⟩, st3.trans st4⟩
      walk_at "go"
      refine ⟨fun hk => ?_, fun hk => ?_⟩
      · walk_at "go"
        exact ⟨p, k, rfl, st3.bag, fun w cs'' w0 w1 st4 => fin w cs'' w0 w1 st4⟩
      · walk_at "go"
        refine ⟨p, 4, rfl, by decide, by decide, st3.bag, fun g2 cs4 _ _ st4 => ?_⟩
        walk_at "go"
        exact ⟨p, g2, rfl, st4.bag, fun w cs'' w0 w1 st5 => fin w cs'' w0 w1 (st4.trans st5)⟩
    · rintro acc cs' ⟨ws, rfl, hl, hr, st3⟩
      rw [rng_len] at hl
      exact h ws cs' ⟨by omega, by omega, hr⟩ (by omega) st3
local macro_rules | `(tactic| walk_at "cl") => `(tactic| (first | ((with_reducible apply r_law_weights); (walk_at "in"); (walk_at "in"); (walk_at "bg"))))
def sp_law_same : Nat → DSp
  | 0 => fun _ _ _ _ => False
  | n + 1 => fun ds cs P _ => ∃ d, ds = [d, d] ∧ n ≤ 10 ∧ plD n d = true ∧ P (.bl true) cs
theorem r_law_same {d : D} {cs : Cs} {P : DP} {Z : XZ} (hd : plD 5 d = true) (h : P (.bl true) cs) : sp_law_same 6 [d, d] cs P Z := ⟨d, rfl, by decide, hd, h⟩
theorem sc_law_same : FnScope ["_law_found", "_law_due", "_law_key_now", "_law_one", "_law_other"] ["_law_found", "_law_due"] (defScope s_law_same) := ⟨rfl, rfl, rfl, by decide +kernel, rfl, by decide +kernel, by decide +kernel⟩
theorem ok_law_same {P : Program} {w : World} {K : PySem.W.Frag} {mg : Str → Option Value} {base : Heap} (T : Txt K mg base) (n : Nat) : FnOk P w K mg base (L2.CX P w) (n + 1) (He.ga K "_law_same") T.fd_law_same ["_law_found", "_law_due"] (spL K 2 (sp_law_same n)) := by
  induction n with
  | zero => exact vacF
  | succ n G =>
  rw [show n + 1 + 1 = (n + 1) + 1 from by omega]
  apply ok_def (k := n + 1) T.F_law_same sc_law_same
  case hb =>
    intro cdv A outer s H E hr
    exact (dss_cons (ds_if (dt_val (d_callB call_isi adq_isi rfl T.n_isinstance (by decide +kernel) (da_cons (d_var 1) (da_cons (d_ty (n := "dict") rfl T.n_dict (by decide +kernel)) da_nil)))) dss_never dss_nil)
      (dss_cons (ds_if (dt_val (d_callB call_isiD adq_isiT rfl T.n_isinstance (by decide +kernel) (da_cons (d_var 1) (da_cons (d_tup (da_cons (d_ty (n := "list") rfl T.n_list (by decide +kernel)) (da_cons (d_ty (n := "tuple") rfl T.n_tuple (by decide +kernel)) da_nil))) da_nil)))) (dss_cons (ds_if (dt_w (dw_or (dt_ne hr.units (d_callB call_isi adq_isi rfl T.n_isinstance (by decide +kernel) (da_cons (d_var 0) (da_cons (d_ty (n := "tuple") rfl T.n_tuple (by decide +kernel)) da_nil))) (d_callB call_isi adq_isi rfl T.n_isinstance (by decide +kernel) (da_cons (d_var 1) (da_cons (d_ty (n := "tuple") rfl T.n_tuple (by decide +kernel)) da_nil)))) (dw_or1 (dt_ne hr.units (d_callB call_isi adq_isi rfl T.n_isinstance (by decide +kernel) (da_cons (d_var 0) (da_cons (d_ty (n := "list") rfl T.n_list (by decide +kernel)) da_nil))) (d_callB call_isi adq_isi rfl T.n_isinstance (by decide +kernel) (da_cons (d_var 1) (da_cons (d_ty (n := "list") rfl T.n_list (by decide +kernel)) da_nil))))))) (dss_one (ds_ret d_bl)) dss_nil)
      (dss_one (ds_ret (d_and (d_eq hr.units (d_callB call_len_seq adq_len rfl T.n_len (by decide +kernel) (da_cons (d_var 0) da_nil)) (d_callB call_len_seq adq_len rfl T.n_len (by decide +kernel) (da_cons (d_var 1) da_nil))) (d_one (d_callB (cr_all rfl) adq_all rfl T.n_all (by decide +kernel) (da_cons (d_lc rfl sc_law_same.nd (di_zip rfl T.n_zip (da_cons (d_var 0) (da_cons (d_var 1) da_nil))) (blkOk_by (own := [("_law_one", 3), ("_law_other", 4)]) (N := ["_law_found", "_law_due", "_law_key_now", "_law_one", "_law_other"]) (sc := defScope s_law_same) (by decide +kernel)) (gok_two (by decide) (by decide)) (fun _ _ _ _ _ => (pg_tup (n := 2) rfl (pgs_cons (pg_name (i := 3) sc_law_same.nd rfl (Or.inl rfl)) (pgs_cons (pg_name (i := 4) sc_law_same.nd rfl (Or.inl rfl)) pgs_nil)))) (fun _ _ _ _ _ => dts_nil) (fun _ _ _ _ _ => (d_callN G hr rfl T.g_law_same T.F_law_same.kp (b_law_same T) takes0 (da_cons (d_var 3) (da_cons (d_var 4) da_nil))))) da_nil))))))) dss_nil)
      (dss_cons (ds_if (dt_w (dw_or (dt_ne hr.units (d_callB call_isi adq_isi rfl T.n_isinstance (by decide +kernel) (da_cons (d_var 1) (da_cons (d_ty (n := "bool") rfl T.n_bool (by decide +kernel)) da_nil))) (d_callB call_isi adq_isi rfl T.n_isinstance (by decide +kernel) (da_cons (d_var 0) (da_cons (d_ty (n := "bool") rfl T.n_bool (by decide +kernel)) da_nil)))) (dw_or1 (dt_ne hr.units (d_callB call_isi adq_isi rfl T.n_isinstance (by decide +kernel) (da_cons (d_var 1) (da_cons (d_ty (n := "str") rfl T.n_str (by decide +kernel)) da_nil))) (d_callB call_isi adq_isi rfl T.n_isinstance (by decide +kernel) (da_cons (d_var 0) (da_cons (d_ty (n := "str") rfl T.n_str (by decide +kernel)) da_nil))))))) (dss_one (ds_ret d_bl)) dss_nil)
      (dss_cons (ds_if (dt_ne hr.units (d_callB call_isi adq_isi rfl T.n_isinstance (by decide +kernel) (da_cons (d_var 1) (da_cons (d_ty (n := "int") rfl T.n_int (by decide +kernel)) da_nil))) (d_callB call_isi adq_isi rfl T.n_isinstance (by decide +kernel) (da_cons (d_var 0) (da_cons (d_ty (n := "int") rfl T.n_int (by decide +kernel)) da_nil)))) (dss_one (ds_ret d_bl)) dss_nil)
      (dss_one (ds_ret (d_and (d_eq hr.units (d_is (d_var 1) d_non) (d_is (d_var 0) d_non)) (d_one (d_eq hr.units (d_var 0) (d_var 1))))))))))
  case hsp =>
    skip
    rintro ds cs Q Z ⟨d, rfl, hn, hd, h⟩ _
    show (_ : WS) (finD Q Z) [some _, some _, none, none, none] cs
    have hd20 := plD_mono d hd (show n ≤ 20 by omega)
    have done_ : ∀ xs : List D, plL (n - 1) xs = true → 0 < n → ∀ x ∈ List.zipWith (fun d e => D.tup [d, e]) xs xs, ∃ y, x = .tup [y, y] ∧ plD (n - 1) y = true := by
      intro xs hx _ x hm
      rw [List.zipWith_self] at hm
      obtain ⟨y, hy, rfl⟩ := List.mem_map.mp hm
      exact ⟨y, rfl, plL_mem hx hy⟩
    cases d <;> try first
      | (cases n <;> simp [plD] at hd; done)
      | (walk_at "go"; first | exact h | (simpa using h) | (refine r_eqSelf hd20 ?_; exact h))
    all_goals
      rename_i xs hlen
      cases n with
      | zero => simp [plD] at hd
      | succ m =>
        have key := done_ xs (by first | exact plD_t hd | exact plD_l hd) (by omega)
        have hz : xs.length ≤ 100000 := by first | exact plD_tn hd | exact plD_ln hd
        walk_at "go"
        refine ⟨fun _ => ?_, fun z => absurd (show (xs.length : Int) = xs.length from rfl) (decF z)⟩
        walk_at "go"
        refine ⟨by rw [List.length_zipWith]; omega, ?_⟩
        refine r_compM (fun _ => .bl true) (fun d N N' hd hN => ?_) ?_
        · obtain ⟨y, rfl, hy⟩ := key d hd
          walk_at "go"
          exact ⟨y, rfl, by omega, hy, hN⟩
        walk_at "go"
        refine r_all (ns := List.replicate (List.zipWith (fun d e => D.tup [d, e]) xs xs).length true) (by rw [show (List.zipWith (fun d e => D.tup [d, e]) xs xs).map (fun _ => D.bl true) = (List.replicate (List.zipWith (fun d e => D.tup [d, e]) xs xs).length true).map D.bl by rw [List.map_replicate]; exact List.map_const']; exact blsOf_map _) ?_
        rw [List.all_replicate]
        simpa using h
local macro_rules | `(tactic| walk_at "cl") => `(tactic| (first | ((with_reducible apply r_law_same); (walk_at "pl"))))
def sp_law_is_tree : Nat → DSp
  | 0 => fun _ _ _ _ => False
  | n + 1 => fun ds cs P _ => ∃ (d : D) (m : Int), ds = [d, .int m] ∧ plD n d = true ∧ n ≤ 12 ∧ 0 ≤ m ∧ m ≤ 12 ∧ P (.bl (isTr d m)) cs
theorem r_law_is_tree {d : D} {m : Int} {cs : Cs} {P : DP} {Z : XZ} (hd : plD 12 d = true) (h0 : 0 ≤ m) (hm : m ≤ 12) (h : P (.bl (isTr d m)) cs) : sp_law_is_tree 13 [d, .int m] cs P Z := ⟨_, _, rfl, hd, Nat.le_refl _, h0, hm, h⟩
theorem sc_law_is_tree : FnScope ["_law_tree_here", "_law_many", "_law_at"] ["_law_tree_here", "_law_many"] (defScope s_law_is_tree) := ⟨rfl, rfl, rfl, by decide +kernel, rfl, by decide +kernel, by decide +kernel⟩
theorem ok_law_is_tree {P : Program} {w : World} {K : PySem.W.Frag} {mg : Str → Option Value} {base : Heap} (T : Txt K mg base) (n : Nat) : FnOk P w K mg base (L2.CX P w) (n + 1) (He.ga K "_law_is_tree") T.fd_law_is_tree ["_law_tree_here", "_law_many"] (spL K 2 (sp_law_is_tree n)) := by
  induction n with
  | zero => exact vacF
  | succ n G =>
  rw [show n + 1 + 1 = (n + 1) + 1 from by omega]
  apply ok_def (k := n + 1) T.F_law_is_tree sc_law_is_tree
  case hb =>
    intro cdv A outer s H E hr
    exact (dss_cons (ds_if (dt_w (dw_and (dt_eq hr.units (d_var 0) (d_tup da_nil)) (dw_and1 (dt_val (d_callB call_isi adq_isi rfl T.n_isinstance (by decide +kernel) (da_cons (d_var 0) (da_cons (d_ty (n := "tuple") rfl T.n_tuple (by decide +kernel)) da_nil))))))) (dss_one (ds_ret (d_eq hr.units (d_var 1) d_int))) dss_nil)
      (dss_cons (ds_if (dt_w (dw_or (dt_not (dt_val (d_callB call_isi adq_isi rfl T.n_isinstance (by decide +kernel) (da_cons (d_var 0) (da_cons (d_ty (n := "tuple") rfl T.n_tuple (by decide +kernel)) da_nil))))) (dw_or (dt_ne hr.units (d_callB call_len_seq adq_len rfl T.n_len (by decide +kernel) (da_cons (d_var 0) da_nil)) d_int) (dw_or1 (dt_notinQ hr.units (d_sub_ix (d_var 0) d_int) (d_tup (da_cons d_str (da_cons d_str da_nil)))))))) (dss_one (ds_ret d_bl)) dss_nil)
      (dss_one (ds_ret (d_callB (cr_any rfl) adq_any rfl T.n_any (by decide +kernel) (da_cons (d_lc rfl sc_law_is_tree.nd (di_range2 rfl T.n_range (da_cons d_int (da_cons (d_var 1) da_nil))) (blkOk_by (own := [("_law_at", 2)]) (N := ["_law_tree_here", "_law_many", "_law_at"]) (sc := defScope s_law_is_tree) (by decide +kernel)) (gok_name (by decide)) (fun _ _ _ _ _ => (pg_name (i := 2) sc_law_is_tree.nd rfl (Or.inl rfl))) (fun _ _ _ _ _ => dts_nil) (fun _ _ _ _ _ => (d_and (d_callN G hr rfl T.g_law_is_tree T.F_law_is_tree.kp (b_law_is_tree T) takes0 (da_cons (d_sub_ix (d_var 0) d_int) (da_cons (d_var 2) da_nil))) (d_one (d_callN G hr rfl T.g_law_is_tree T.F_law_is_tree.kp (b_law_is_tree T) takes0 (da_cons (d_sub_ix (d_var 0) d_int) (da_cons (d_sub (d_var 1) (d_var 2)) da_nil))))))) da_nil))))))
  case hsp =>
    skip
    rintro ds cs Q Z ⟨d, m, rfl, hd, hn, h0, hm, h⟩ _
    show (_ : WS) (finD Q Z) [some _, some _, none] cs
    have pd : plD 20 d = true := plD_mono _ hd (by omega)
    walk_at "GO"
    refine r_eqNilT pd (fun e => ?_) (fun e => ?_)
    · subst e
      walk_at "GO"
      rw [← isTr_nil]
      exact h
    cases d <;> try first
      | exact (plD_bad hd rfl).elim
      | (walk_at "GO"; rw [isTr_no (fun t e => by cases t <;> cases e)] at h; exact h)
    rename_i xs hlen
    walk_at "GO"
    by_cases hl : xs.length = 3
    case neg =>
      walk_at "GO"
      refine ⟨fun hk2 => ?_, fun hk2 => absurd (show xs.length = 3 by have := ndecF hk2; omega) hl⟩
      walk_at "GO"
      rw [isTr_no] at h
      · exact h
      intro t q
      cases t with
      | lf => exact e q
      | nd => injection q with q; rw [q] at hl; exact hl rfl
    obtain ⟨s, a, b, rfl⟩ := len_three hl
    obtain ⟨k, rfl⟩ : ∃ m, n = m + 1 := by
      cases n with
      | zero => cases hd
      | succ m => exact ⟨m, rfl⟩
    have hd' := plD_t hd
    simp only [plL, Bool.and_eq_true] at hd'
    obtain ⟨d1, d2, d3, -⟩ := hd'
    have ps : plD 20 s = true := plD_mono _ d1 (by omega)
    walk_at "GO"
    refine ⟨fun hk2 => absurd hk2 (by simp), fun _ => ?_⟩
    walk_at "GO"
    refine r_ninSides ps (fun dn es => ?_) (fun es => ?_)
    case refine_2 =>
      walk_at "GO"
      rw [isTr_no] at h
      · exact h
      intro t q
      cases t with
      | lf => exact e q
      | nd dn x y => injection q with q; injection q with q _; exact es dn q
    subst es
    walk_at "GO"
    refine ⟨by omega, by rw [rng_len]; omega, ?_⟩
    refine r_cmE (l := List.range (m - 1).toNat) (rng1' (a := 1) rfl rfl) (fun i => .bl (isTr a ((1 + i : Nat) : Int) && isTr b (m - ((1 + i : Nat) : Int)))) (fun i N N' hm' hN => ?_) ?_
    · have hi := List.mem_range.mp hm'
      walk_at "GO"
      refine ⟨a, _, rfl, d2, by omega, by omega, by omega, ?_⟩
      walk_at "GO"
      refine ⟨fun ha => ?_, fun ha => ?_⟩
      · rw [ha, Bool.true_and] at hN
        walk_at "GO"
        refine ⟨b, _, rfl, d3, by omega, by omega, by omega, ?_⟩
        exact hN
      · rw [ha, Bool.false_and] at hN
        walk_at "GO"
        exact hN
    walk_at "GO"
    refine ⟨_, (List.range (m - 1).toNat).map (fun i => isTr a ((1 + i : Nat) : Int) && isTr b (m - ((1 + i : Nat) : Int))), rfl, by rw [List.map_map]; rfl, ?_⟩
    rw [List.any_map]
    rw [← isTr_nd dn a b rfl] at h
    exact h
local macro_rules | `(tactic| walk_at "cl") => `(tactic| (first | ((with_reducible apply r_law_is_tree); (assumption); (walk_at "in"); (walk_at "in"))))
theorem sc_law_ask : FnScope ["_law_ask_here", "_law_told", "_law_word", "e"] ["_law_ask_here"] (defScope s_law_ask) := ⟨rfl, rfl, rfl, by decide +kernel, rfl, by decide +kernel, by decide +kernel⟩
theorem tk_law_ask {P : Program} {w : World} {K : PySem.W.Frag} {mg : Str → Option Value} {base : Heap} (T : Txt K mg base) : TkOk P w K mg base 1 (He.ga K "_law_ask") (TTask K [.ref (He.ga K "CutError"), .ref (He.ga K "Missing"), .ref (He.ga K "NothingLeft")]) := tk_ask T.F_law_ask sc_law_ask (b_law_ask T) rfl rfl rfl rfl rfl rfl rfl T.g_CutError T.g_Missing T.g_NothingLeft (by decide) (by decide) (by intro env he; cases env; cases he; rfl)
theorem sc_law_why : FnScope ["_law_ask_here"] ["_law_ask_here"] (defScope s_law_why) := ⟨rfl, rfl, rfl, by decide +kernel, rfl, by decide +kernel, by decide +kernel⟩
theorem tk_law_why {P : Program} {w : World} {K : PySem.W.Frag} {mg : Str → Option Value} {base : Heap} (T : Txt K mg base) : TkOk P w K mg base 2 (He.ga K "_law_why") (TTwhy K [.ref (He.ga K "CutError"), .ref (He.ga K "Missing"), .ref (He.ga K "NothingLeft")]) := tk_why (tk_law_ask T) T.F_law_why sc_law_why (b_law_why T) rfl rfl T.g_law_ask T.F_law_ask.kp (by decide) (by decide) (by decide)
def sp_law_over : DSp := fun ds cs P _ => ∃ x y : Rat, ds = [dR x, dR y] ∧ Sz 4000 x ∧ Sz 4000 y ∧ y ≠ 0 ∧ P (dR (x / y)) cs
theorem r_law_over {x y : Rat} {cs : Cs} {P : DP} {Z : XZ} (hx : Sz 4000 x) (hy : Sz 4000 y) (h0 : y ≠ 0) (h : P (dR (x / y)) cs) : sp_law_over [dR x, dR y] cs P Z := ⟨x, y, rfl, hx, hy, h0, h⟩
theorem sc_law_over : FnScope ["_law_one", "_law_other"] ["_law_one", "_law_other"] (defScope s_law_over) := ⟨rfl, rfl, rfl, by decide +kernel, rfl, by decide +kernel, by decide +kernel⟩
theorem ok_law_over {P : Program} {w : World} {K : PySem.W.Frag} {mg : Str → Option Value} {base : Heap} (T : Txt K mg base) : FnOk P w K mg base (L2.CX P w) 3 (He.ga K "_law_over") T.fd_law_over ["_law_one", "_law_other"] (spL K 2 sp_law_over) := by
  apply ok_def (k := 2) T.F_law_over sc_law_over
  case hb =>
    intro cdv A outer s H E hr
    exact (dss_one (ds_ret (d_callN (ok_law_part T) (hr.mono (by decide)) rfl T.g_law_part T.F_law_part.kp (b_law_part T) takesD (da_cons (d_mul (d_sub_ix (d_var 0) d_int) (d_sub_ix (d_var 1) d_int)) (da_cons (d_mul (d_sub_ix (d_var 0) d_int) (d_sub_ix (d_var 1) d_int)) da_nil)))))
  case hsp =>
    skip
    rintro ds cs Q Z ⟨x, y, rfl, hx, hy, h0, h⟩ _
    show (_ : WS) (finD Q Z) [some _, some _] cs
    have m1 := hx.nd hy
    have m2 := hx.dn hy
    walk_at "go"
    exact ⟨_, _, rfl, Int.mul_ne_zero (den_ne x) (fun z => h0 (Rat.num_eq_zero.mp z)), dn_ok hx hy (by decide), by rw [divInt_div]; exact h⟩
local macro_rules | `(tactic| walk_at "cl") => `(tactic| (first | ((with_reducible apply r_law_over); (walk_at "sz"); (walk_at "sz"); (walk_at "nz"))))
def sp_law_shape : DSp := fun ds cs P _ => ∃ x y : Rat, ds = [dR x, dR y] ∧ Sz 4000 x ∧ Sz 4000 y ∧ 0 < x ∧ 0 < y ∧ P (dR (shapeR x y)) cs
theorem r_law_shape {x y : Rat} {cs : Cs} {P : DP} {Z : XZ} (hx : Sz 4000 x) (hy : Sz 4000 y) (x0 : 0 < x) (y0 : 0 < y) (h : P (dR (shapeR x y)) cs) : sp_law_shape [dR x, dR y] cs P Z := ⟨x, y, rfl, hx, hy, x0, y0, h⟩
theorem sc_law_shape : FnScope ["_law_wide", "_law_high"] ["_law_wide", "_law_high"] (defScope s_law_shape) := ⟨rfl, rfl, rfl, by decide +kernel, rfl, by decide +kernel, by decide +kernel⟩
theorem ok_law_shape {P : Program} {w : World} {K : PySem.W.Frag} {mg : Str → Option Value} {base : Heap} (T : Txt K mg base) : FnOk P w K mg base (L2.CX P w) 4 (He.ga K "_law_shape") T.fd_law_shape ["_law_wide", "_law_high"] (spL K 2 sp_law_shape) := by
  apply ok_def (k := 3) T.F_law_shape sc_law_shape
  case hb =>
    intro cdv A outer s H E hr
    exact (dss_one (ds_ret (d_if (dt_val (d_callN (ok_law_less T) (hr.mono (by decide)) rfl T.g_law_less T.F_law_less.kp (b_law_less T) takesD (da_cons (d_var 0) (da_cons (d_var 1) da_nil)))) (d_callN (ok_law_over T) (hr.mono (by decide)) rfl T.g_law_over T.F_law_over.kp (b_law_over T) takesD (da_cons (d_var 1) (da_cons (d_var 0) da_nil))) (d_callN (ok_law_over T) (hr.mono (by decide)) rfl T.g_law_over T.F_law_over.kp (b_law_over T) takesD (da_cons (d_var 0) (da_cons (d_var 1) da_nil))))))
  case hsp =>
    skip
    rintro ds cs Q Z ⟨x, y, rfl, hx, hy, x0, y0, h⟩ _
    show (_ : WS) (finD Q Z) [some _, some _] cs
    walk_at "go"
    refine ⟨x, y, rfl, hx, hy, ?_⟩
    have x1 : x ≠ 0 := Rat.ne_of_gt x0
    have y1 : y ≠ 0 := Rat.ne_of_gt y0
    refine ⟨fun hk => ?_, fun hk => ?_⟩
    · walk_at "go"
      refine ⟨y, x, rfl, hy, hx, x1, ?_⟩
      rw [shapeR, if_pos (decT hk)] at h
      exact h
    · walk_at "go"
      refine ⟨x, y, rfl, hx, hy, y1, ?_⟩
      rw [shapeR, if_neg (decF hk)] at h
      exact h
local macro_rules | `(tactic| walk_at "cl") => `(tactic| (first | ((with_reducible apply r_law_shape); (walk_at "sz"); (walk_at "sz"); (walk_at "pz"); (walk_at "pz"))))
def sp_is_whole : DSp := fun ds cs P _ => ∃ d, ds = [d] ∧ knD d = true ∧ P (.bl (wholeD d)) cs
theorem r_is_whole {i : Int} {cs : Cs} {P : DP} {Z : XZ} (h : P (.bl true) cs) : sp_is_whole [.int i] cs P Z := ⟨.int i, rfl, rfl, h⟩
theorem sc_is_whole : FnScope ["thing"] ["thing"] (defScope s_is_whole) := ⟨rfl, rfl, rfl, by decide +kernel, rfl, by decide +kernel, by decide +kernel⟩
theorem ok_is_whole {P : Program} {w : World} {K : PySem.W.Frag} {mg : Str → Option Value} {base : Heap} (T : Txt K mg base) : FnOk P w K mg base (L2.CX P w) 1 (He.ga K "is_whole") T.fd_is_whole ["thing"] (spL K 1 sp_is_whole) := by
  apply ok_def (k := 0) T.F_is_whole sc_is_whole
  case hb =>
    intro cdv A outer s H E hr
    exact (dss_one (ds_ret (d_and (d_callB call_isi adq_isi rfl T.n_isinstance (by decide +kernel) (da_cons (d_var 0) (da_cons (d_ty (n := "int") rfl T.n_int (by decide +kernel)) da_nil))) (d_one (d_not (d_callB call_isi adq_isi rfl T.n_isinstance (by decide +kernel) (da_cons (d_var 0) (da_cons (d_ty (n := "bool") rfl T.n_bool (by decide +kernel)) da_nil))))))))
  case hsp =>
    skip
    rintro ds cs Q Z ⟨d, rfl, hk, h⟩ _
    show (_ : WS) (finD Q Z) [some _] cs
    cases d <;> first
      | (simp [knD] at hk; done)
      | (walk_at "go"; exact h)
local macro_rules | `(tactic| walk_at "cl") => `(tactic| (first | (with_reducible refine r_is_whole ?_)))
def sp_common : DSp := fun ds cs P _ => ∃ a b : Nat, ds = [.int (a : Int), .int (b : Int)] ∧ P (.int (Nat.gcd a b : Int)) cs
theorem sc_common : FnScope ["one", "other"] ["one", "other"] (defScope s_common) := ⟨rfl, rfl, rfl, by decide +kernel, rfl, by decide +kernel, by decide +kernel⟩
theorem ok_common {P : Program} {w : World} {K : PySem.W.Frag} {mg : Str → Option Value} {base : Heap} (T : Txt K mg base) : FnOk P w K mg base (L2.CX P w) 1 (He.ga K "common") T.fd_common ["one", "other"] (spL K 2 sp_common) := by
  apply ok_def (k := 0) T.F_common sc_common
  case hb =>
    intro cdv A outer s H E hr
    exact (dss_cons (ds_while passD (dt_ne hr.units (d_var 1) d_int) (dss_one (ds_par (i := 0) (j := 1) rfl sc_common.nd rfl rfl (by decide) rfl rfl (da_cons (d_var 1) (da_cons (d_mod (d_var 0) (d_var 1)) da_nil)))))
      (dss_one (ds_ret (d_var 0))))
  case hsp =>
    skip
    rintro ds cs Q Z ⟨a, b, rfl, h⟩ _
    show (_ : WS) (finD Q Z) [some _, some _] cs
    walk_at "go"
    refine r_while (fun m ρ cs' => ∃ a' b' : Nat, ρ = [some (.int (a' : Int)), some (.int (b' : Int))] ∧ m = b' ∧ cs' = cs ∧ Nat.gcd a' b' = Nat.gcd a b) ⟨b, a, b, rfl, rfl, rfl, rfl⟩ ?_
    rintro m ρ cs' N ⟨a', b', rfl, hm, rfl, hg⟩ hN
    walk_at "go"
    refine ⟨fun hk => ?_, fun hk => ?_⟩
    · have hb : (b' : Int) ≠ 0 := ndecT hk
      have hb0 : (0 : Int) < b' := by omega
      walk_at "go"
      refine hN (a' % b') _ _ (by rw [hm]; exact Nat.mod_lt _ (by omega)) ⟨b', a' % b', rfl, rfl, rfl, ?_⟩
      rw [← hg, Nat.gcd_comm b', ← Nat.gcd_rec, Nat.gcd_comm]
    · have hb : (b' : Int) = 0 := ndecF hk
      have hb0 : b' = 0 := by omega
      rw [hb0]
      walk_at "go"
      rw [← hg, hb0, Nat.gcd_zero_right] at h
      exact h
def sp_is_part : DSp := fun ds cs P _ => ∃ d, ds = [d] ∧ knD d = true ∧ P (.bl (partD d)) cs
theorem sc_is_part : FnScope ["thing", "above", "below"] ["thing"] (defScope s_is_part) := ⟨rfl, rfl, rfl, by decide +kernel, rfl, by decide +kernel, by decide +kernel⟩
theorem ok_is_part {P : Program} {w : World} {K : PySem.W.Frag} {mg : Str → Option Value} {base : Heap} (T : Txt K mg base) : FnOk P w K mg base (L2.CX P w) 2 (He.ga K "is_part") T.fd_is_part ["thing"] (spL K 1 sp_is_part) := by
  apply ok_def (k := 1) T.F_is_part sc_is_part
  case hb =>
    intro cdv A outer s H E hr
    exact (dss_cons (ds_if (dt_w (dw_or (dt_not (dt_val (d_callB call_isi adq_isi rfl T.n_isinstance (by decide +kernel) (da_cons (d_var 0) (da_cons (d_ty (n := "tuple") rfl T.n_tuple (by decide +kernel)) da_nil))))) (dw_or1 (dt_ne hr.units (d_callB call_len_seq adq_len rfl T.n_len (by decide +kernel) (da_cons (d_var 0) da_nil)) d_int)))) (dss_one (ds_ret d_bl)) dss_nil)
      (dss_cons (ds_asg (d_var 0) (dg_tup (n := 2) rfl (dgs_cons (dg_name (i := 1) sc_is_part.nd rfl (Or.inl rfl)) (dgs_cons (dg_name (i := 2) sc_is_part.nd rfl (Or.inl rfl)) dgs_nil))))
      (dss_one (ds_ret (d_and (d_callN (ok_is_whole T) (hr.mono (by decide)) rfl T.g_is_whole T.F_is_whole.kp (b_is_whole T) takesD (da_cons (d_var 1) da_nil)) (d_and (d_callN (ok_is_whole T) (hr.mono (by decide)) rfl T.g_is_whole T.F_is_whole.kp (b_is_whole T) takesD (da_cons (d_var 2) da_nil)) (d_and (d_gt (d_var 2) d_int) (d_one (d_eq hr.units (d_callN (ok_common T) (hr.mono (by decide)) rfl T.g_common T.F_common.kp (b_common T) takesD (da_cons (d_callB call_abs adq_abs rfl T.n_abs (by decide +kernel) (da_cons (d_var 1) da_nil)) (da_cons (d_var 2) da_nil))) d_int)))))))))
  case hsp =>
    skip
    rintro ds cs Q Z ⟨d, rfl, hk, h⟩ _
    show (_ : WS) (finD Q Z) [some _, none, none] cs
    cases d <;> try first
      | (simp [knD] at hk; done)
      | (walk_at "go"; exact h)
    rename_i xs hlen
    by_cases hl : xs.length = 2
    case neg =>
      rw [partD_len hl] at h
      walk_at "go"
      refine ⟨fun hk2 => ?_, fun hk2 => absurd (show xs.length = 2 by have := ndecF hk2; omega) hl⟩
      walk_at "go"
      exact h
    case pos =>
      obtain ⟨x, y, rfl⟩ : ∃ x y, xs = [x, y] := by
        cases xs with
        | nil => cases hl
        | cons x xs => cases xs with
          | nil => cases hl
          | cons y xs => cases xs with
            | nil => exact ⟨x, y, rfl⟩
            | cons _ _ => simp at hl
      have kx : knD x = true := knL_mem (show knL [x, y] = true from hk) (by simp)
      have ky : knD y = true := knL_mem (show knL [x, y] = true from hk) (by simp)
      walk_at "go"
      refine ⟨fun hk2 => absurd hk2 (by simp), fun _ => ?_⟩
      walk_at "go"
      refine ⟨x, rfl, kx, ?_⟩
      by_cases hx : ∃ a, x = .int a
      case neg =>
        have e : wholeD x = false := by cases x <;> first | rfl | exact absurd ⟨_, rfl⟩ hx
        have e2 : partD (.tup [x, y]) = false := by unfold partD; split <;> first | rfl | (rename_i q; cases q; exact absurd ⟨_, rfl⟩ hx)
        rw [e]
        rw [e2] at h
        walk_at "go"
        exact h
      case pos =>
        obtain ⟨a, rfl⟩ := hx
        rw [show wholeD (.int a) = true from rfl]
        walk_at "go"
        refine ⟨y, rfl, ky, ?_⟩
        by_cases hy : ∃ b, y = .int b
        case neg =>
          have e : wholeD y = false := by cases y <;> first | rfl | exact absurd ⟨_, rfl⟩ hy
          have e2 : partD (.tup [.int a, y]) = false := by unfold partD; split <;> first | rfl | (rename_i q; cases q; exact absurd ⟨_, rfl⟩ hy)
          rw [e]
          rw [e2] at h
          walk_at "go"
          exact h
        case pos =>
          obtain ⟨b, rfl⟩ := hy
          rw [show wholeD (.int b) = true from rfl]
          walk_at "go"
          refine ⟨fun hb => ?_, fun hb => ?_⟩
          · have hb0 := decT hb
            have hn : b = (b.natAbs : Int) := by omega
            walk_at "go"
            rw [abs_nat]
            refine ⟨a.natAbs, b.natAbs, by rw [← hn], ?_⟩
            walk_at "go"
            have e : partD (.tup [.int a, .int b]) = decide ((Nat.gcd a.natAbs b.natAbs : Int) = 1) := by
              show (decide (0 < b) && decide (Nat.gcd a.natAbs b.natAbs = 1)) = _
              rw [decide_eq_true hb0, Bool.true_and]
              exact decide_eq_decide.mpr ⟨fun z => by omega, fun z => by omega⟩
            rw [e] at h
            exact h
          · have hb0 := decF hb
            have e : partD (.tup [.int a, .int b]) = false := by
              show (decide (0 < b) && decide (Nat.gcd a.natAbs b.natAbs = 1)) = _
              rw [decide_eq_false hb0, Bool.false_and]
            rw [e] at h
            walk_at "go"
            exact h
def sp_is_box : DSp := fun ds cs P _ => ∃ d, ds = [d] ∧ knD d = true ∧ P (.bl (boxD d)) cs
theorem sc_is_box : FnScope ["thing", "one"] ["thing"] (defScope s_is_box) := ⟨rfl, rfl, rfl, by decide +kernel, rfl, by decide +kernel, by decide +kernel⟩
theorem ok_is_box {P : Program} {w : World} {K : PySem.W.Frag} {mg : Str → Option Value} {base : Heap} (T : Txt K mg base) : FnOk P w K mg base (L2.CX P w) 3 (He.ga K "is_box") T.fd_is_box ["thing"] (spL K 1 sp_is_box) := by
  apply ok_def (k := 2) T.F_is_box sc_is_box
  case hb =>
    intro cdv A outer s H E hr
    exact (dss_cons (ds_if (dt_w (dw_or (dt_not (dt_val (d_callB call_isi adq_isi rfl T.n_isinstance (by decide +kernel) (da_cons (d_var 0) (da_cons (d_ty (n := "tuple") rfl T.n_tuple (by decide +kernel)) da_nil))))) (dw_or (dt_ne hr.units (d_callB call_len_seq adq_len rfl T.n_len (by decide +kernel) (da_cons (d_var 0) da_nil)) d_int) (dw_or1 (dt_not (dt_val (d_callB (cr_all rfl) adq_all rfl T.n_all (by decide +kernel) (da_cons (d_lc rfl sc_is_box.nd (di_tup (d_var 0)) (blkOk_by (own := [("one", 1)]) (N := ["thing", "one"]) (sc := defScope s_is_box) (by decide +kernel)) (gok_name (by decide)) (fun _ _ _ _ _ => (pg_name (i := 1) sc_is_box.nd rfl (Or.inl rfl))) (fun _ _ _ _ _ => dts_nil) (fun _ _ _ _ _ => (d_callN (ok_is_part T) (hr.mono (by decide)) rfl T.g_is_part T.F_is_part.kp (b_is_part T) takes0 (da_cons (d_var 1) da_nil)))) da_nil)))))))) (dss_one (ds_ret d_bl)) dss_nil)
      (dss_one (ds_ret (d_and (d_gt (d_sub_ix (d_sub_ix (d_var 0) d_int) d_int) d_int) (d_one (d_gt (d_sub_ix (d_sub_ix (d_var 0) d_int) d_int) d_int))))))
  case hsp =>
    skip
    rintro ds cs Q Z ⟨d, rfl, hk, h⟩ _
    show (_ : WS) (finD Q Z) [some _, none] cs
    cases d <;> try first
      | (simp [knD] at hk; done)
      | (walk_at "go"; exact h)
    rename_i xs hlen
    by_cases hl : xs.length = 4
    case neg =>
      rw [boxD_len hl] at h
      walk_at "go"
      refine ⟨fun hk2 => ?_, fun hk2 => absurd (show xs.length = 4 by have := ndecF hk2; omega) hl⟩
      walk_at "go"
      exact h
    case pos =>
      walk_at "go"
      refine ⟨fun hk2 => absurd (show (xs.length : Int) = 4 by omega) (ndecT hk2), fun _ => ?_⟩
      walk_at "go"
      refine ⟨by omega, ?_⟩
      refine r_compM (fun d => .bl (partD d)) (fun d N N' hd hN => ?_) ?_
      · walk_at "go"
        exact ⟨d, rfl, knL_mem hk hd, hN⟩
      walk_at "g1"
      have e : blsOf (xs.map fun d => D.bl (partD d)) = some (xs.map partD) := by
        rw [show (xs.map fun d => D.bl (partD d)) = (xs.map partD).map D.bl by rw [List.map_map]; rfl]
        exact blsOf_map _
      refine r_all e ?_
      obtain ⟨x1, x2, x3, x4, rfl⟩ : ∃ x1 x2 x3 x4, xs = [x1, x2, x3, x4] := by
        match xs, hl with
        | [a, b, c, d], _ => exact ⟨a, b, c, d, rfl⟩
      have eb : boxD (.tup [x1, x2, x3, x4]) = (partD x1 && (partD x2 && (partD x3 && (partD x4 && (posD x3 && posD x4))))) := rfl
      rw [eb] at h
      have ea : ([x1, x2, x3, x4].map partD).all id = (partD x1 && (partD x2 && (partD x3 && partD x4))) := by simp
      rw [ea]
      by_cases hp : (partD x1 && (partD x2 && (partD x3 && partD x4))) = true
      case neg =>
        have hp' : (partD x1 && (partD x2 && (partD x3 && partD x4))) = false := by simpa using hp
        have e0 : (partD x1 && (partD x2 && (partD x3 && (partD x4 && (posD x3 && posD x4))))) = false := by
          revert hp'; cases partD x1 <;> cases partD x2 <;> cases partD x3 <;> cases partD x4 <;> simp
        rw [e0] at h
        rw [hp']
        walk_at "go"
        exact h
      case pos =>
        rw [hp]
        simp only [Bool.and_eq_true] at hp
        obtain ⟨q1, q2, q3, q4⟩ := hp
        rw [q1, q2, q3, q4, Bool.true_and, Bool.true_and, Bool.true_and, Bool.true_and] at h
        obtain ⟨r3, rfl⟩ := partD_inv q3
        obtain ⟨r4, rfl⟩ := partD_inv q4
        walk_at "go"
        refine ⟨fun hk3 => ?_, fun hk3 => ?_⟩
        · rw [show posD (dR r3) = true from hk3] at h
          walk_at "go"
          exact h
        · rw [show posD (dR r3) = false from hk3] at h
          walk_at "go"
          exact h
def sp_need_box : DSp := fun ds cs P Z => ∃ d, ds = [d] ∧ knD d = true ∧ (boxD d = true → P .non cs) ∧ (boxD d = false → Z (exn "BadBox") cs)
theorem r_need_box {b : Bx} {cs : Cs} {P : DP} {Z : XZ} (hp : b.Pos) (h : P .non cs) : sp_need_box [b.d] cs P Z := ⟨_, rfl, rfl, fun _ => h, fun z => by rw [boxD_Bx hp] at z; cases z⟩
theorem r_need_boxX {d : D} {cs : Cs} {P : DP} {Z : XZ} (hk : knD d = true) (h1 : boxD d = true → P .non cs) (h2 : boxD d = false → Z (exn "BadBox") cs) : sp_need_box [d] cs P Z := ⟨d, rfl, hk, h1, h2⟩
theorem sc_need_box : FnScope ["box"] ["box"] (defScope s_need_box) := ⟨rfl, rfl, rfl, by decide +kernel, rfl, by decide +kernel, by decide +kernel⟩
theorem ok_need_box {P : Program} {w : World} {K : PySem.W.Frag} {mg : Str → Option Value} {base : Heap} (T : Txt K mg base) : FnOk P w K mg base (L2.CX P w) 4 (He.ga K "need_box") T.fd_need_box ["box"] (spL K 1 sp_need_box) := by
  apply ok_def (k := 3) T.F_need_box sc_need_box
  case hb =>
    intro cdv A outer s H E hr
    exact (dss_one (ds_if (dt_not (dt_val (d_callN (ok_is_box T) (hr.mono (by decide)) rfl T.g_is_box T.F_is_box.kp (b_is_box T) takesD (da_cons (d_var 0) da_nil)))) (dss_one (ds_raise0 rfl takesD T.x_BadBox.x T.x_BadBox.ini T.x_BadBox.ty (ok_i_BadBox T) (hr.mono (by decide)) (b_i_BadBox T) .nil (fun _ => .nil) rfl fld0 rfl T.g_BadBox)) dss_nil))
  case hsp =>
    skip
    rintro ds cs Q Z ⟨d, rfl, hk, h1, h2⟩ _
    show (_ : WS) (finD Q Z) [some _] cs
    walk_at "GO"
    refine ⟨d, rfl, hk, ?_⟩
    walk_at "GO"
    cases hb : boxD d with
    | true =>
      refine ⟨fun z => absurd z (by decide), fun _ => ?_⟩
      walk_at "GO"
      exact h1 hb
    | false =>
      refine ⟨fun _ => ?_, fun z => absurd z (by decide)⟩
      walk_at "GO"
      exact h2 hb
local macro_rules | `(tactic| walk_at "cl") => `(tactic| (first | ((with_reducible apply r_need_box); (walk_at "pb"))))
def sp_are_weights : DSp := fun ds cs P _ => ∃ d, ds = [d] ∧ knD d = true ∧ P (.bl (weightsD d)) cs
theorem sc_are_weights : FnScope ["thing", "one"] ["thing"] (defScope s_are_weights) := ⟨rfl, rfl, rfl, by decide +kernel, rfl, by decide +kernel, by decide +kernel⟩
theorem ok_are_weights {P : Program} {w : World} {K : PySem.W.Frag} {mg : Str → Option Value} {base : Heap} (T : Txt K mg base) : FnOk P w K mg base (L2.CX P w) 2 (He.ga K "are_weights") T.fd_are_weights ["thing"] (spL K 1 sp_are_weights) := by
  apply ok_def (k := 1) T.F_are_weights sc_are_weights
  case hb =>
    intro cdv A outer s H E hr
    exact (dss_cons (ds_if (dt_w (dw_or (dt_not (dt_val (d_callB call_isiD adq_isiT rfl T.n_isinstance (by decide +kernel) (da_cons (d_var 0) (da_cons (d_tup (da_cons (d_ty (n := "list") rfl T.n_list (by decide +kernel)) (da_cons (d_ty (n := "tuple") rfl T.n_tuple (by decide +kernel)) da_nil))) da_nil))))) (dw_or1 (dt_not (dt_chain_le_le d_int (d_callB call_len_seq adq_len rfl T.n_len (by decide +kernel) (da_cons (d_var 0) da_nil)) (d_gint rfl T.c_MOST_CHILDREN)))))) (dss_one (ds_ret d_bl)) dss_nil)
      (dss_one (ds_ret (d_callB (cr_all rfl) adq_all rfl T.n_all (by decide +kernel) (da_cons (d_lc rfl sc_are_weights.nd (di_any (d_var 0)) (blkOk_by (own := [("one", 1)]) (N := ["thing", "one"]) (sc := defScope s_are_weights) (by decide +kernel)) (gok_name (by decide)) (fun _ _ _ _ _ => (pg_name (i := 1) sc_are_weights.nd rfl (Or.inl rfl))) (fun _ _ _ _ _ => dts_nil) (fun _ _ _ _ _ => (d_and (d_callN (ok_is_whole T) (hr.mono (by decide)) rfl T.g_is_whole T.F_is_whole.kp (b_is_whole T) takes0 (da_cons (d_var 1) da_nil)) (d_one (d_chain_le_le d_int (d_var 1) (d_gint rfl T.c_MOST_WEIGHT)))))) da_nil)))))
  case hsp =>
    skip
    rintro ds cs Q Z ⟨d, rfl, hk, h⟩ _
    show (_ : WS) (finD Q Z) [some _, none] cs
    cases d <;> try first
      | (simp [knD] at hk; done)
      | (walk_at "go"; exact h)
    all_goals
      rename_i xs hlen
      have h : Q (.bl (wtsL xs)) cs := h
      walk_at "go"
      by_cases h1 : 1 ≤ xs.length
      case neg =>
        rw [show decide ((1 : Int) ≤ (xs.length : Int)) = false from decide_eq_false (by omega)]
        walk_at "go"
        have e : wtsL xs = false := by unfold wtsL; rw [decide_eq_false h1]; rfl
        rw [e] at h
        exact h
      rw [show decide ((1 : Int) ≤ (xs.length : Int)) = true from decide_eq_true (by omega)]
      walk_at "go"
      by_cases h2 : xs.length ≤ 12
      case neg =>
        rw [show decide ((xs.length : Int) ≤ 12) = false from decide_eq_false (by omega)]
        walk_at "go"
        have e : wtsL xs = false := by unfold wtsL; rw [decide_eq_false h2, Bool.and_false]; rfl
        rw [e] at h
        exact h
      rw [show decide ((xs.length : Int) ≤ 12) = true from decide_eq_true (by omega)]
      walk_at "go"
      refine ⟨by omega, ?_⟩
      refine r_compM (fun d => .bl (wOkD d)) (fun d N N' hd hN => ?_) ?_
      · walk_at "go"
        refine ⟨d, rfl, knL_mem hk hd, ?_⟩
        have e0 : wOkD d = (wholeD d && wOkD d) := by cases d <;> rfl
        cases hd2 : wholeD d with
        | false =>
          rw [hd2, Bool.false_and] at e0
          rw [e0] at hN
          walk_at "go"
          exact hN
        | true =>
        obtain ⟨i, rfl⟩ : ∃ i, d = .int i := by
          cases d <;> first | exact ⟨_, rfl⟩ | (cases hd2; done)
        walk_at "go"
        have hN : N (.bl (decide (1 ≤ i) && decide (i ≤ 400000))) cs := hN
        refine ⟨fun k => ?_, fun k => ?_⟩
        · rw [k, Bool.true_and] at hN
          walk_at "go"
          exact hN
        · rw [k, Bool.false_and] at hN
          exact hN
      walk_at "g1"
      have e : blsOf (xs.map fun d => D.bl (wOkD d)) = some (xs.map wOkD) := by
        rw [show (xs.map fun d => D.bl (wOkD d)) = (xs.map wOkD).map D.bl by rw [List.map_map]; rfl]
        exact blsOf_map _
      refine r_all e ?_
      have e2 : (xs.map wOkD).all id = wtsL xs := by
        unfold wtsL
        rw [decide_eq_true h1, decide_eq_true h2, List.all_map]
        rfl
      rw [e2]
      exact h
def sp_need_weights : DSp := fun ds cs P Z => ∃ d, ds = [d] ∧ knD d = true ∧ (weightsD d = true → P .non cs) ∧ (weightsD d = false → Z (exn "BadWeight") cs)
theorem r_need_weights {ws : List Int} {wd : D} {cs : Cs} {P : DP} {Z : XZ} (hwd : WD wd ws) (hw : WtOk ws) (h : P .non cs) : sp_need_weights [wd] cs P Z := by
  rcases hwd with rfl | rfl
  · exact ⟨_, rfl, knL_ints ws, fun _ => h, fun z => by rw [show weightsD (.lst (ws.map D.int)) = true from wtsL_ok hw] at z; cases z⟩
  · exact ⟨_, rfl, knL_ints ws, fun _ => h, fun z => by rw [show weightsD (.tup (ws.map D.int)) = true from wtsL_ok hw] at z; cases z⟩
theorem r_need_weightsX {d : D} {cs : Cs} {P : DP} {Z : XZ} (hk : knD d = true) (h1 : weightsD d = true → P .non cs) (h2 : weightsD d = false → Z (exn "BadWeight") cs) : sp_need_weights [d] cs P Z := ⟨d, rfl, hk, h1, h2⟩
theorem sc_need_weights : FnScope ["weights"] ["weights"] (defScope s_need_weights) := ⟨rfl, rfl, rfl, by decide +kernel, rfl, by decide +kernel, by decide +kernel⟩
theorem ok_need_weights {P : Program} {w : World} {K : PySem.W.Frag} {mg : Str → Option Value} {base : Heap} (T : Txt K mg base) : FnOk P w K mg base (L2.CX P w) 4 (He.ga K "need_weights") T.fd_need_weights ["weights"] (spL K 1 sp_need_weights) := by
  apply ok_def (k := 3) T.F_need_weights sc_need_weights
  case hb =>
    intro cdv A outer s H E hr
    exact (dss_one (ds_if (dt_not (dt_val (d_callN (ok_are_weights T) (hr.mono (by decide)) rfl T.g_are_weights T.F_are_weights.kp (b_are_weights T) takesD (da_cons (d_var 0) da_nil)))) (dss_one (ds_raise0 rfl takesD T.x_BadWeight.x T.x_BadWeight.ini T.x_BadWeight.ty (ok_i_BadWeight T) (hr.mono (by decide)) (b_i_BadWeight T) .nil (fun _ => .nil) rfl fld0 rfl T.g_BadWeight)) dss_nil))
  case hsp =>
    skip
    rintro ds cs Q Z ⟨d, rfl, hk, h1, h2⟩ _
    show (_ : WS) (finD Q Z) [some _] cs
    walk_at "GO"
    refine ⟨d, rfl, hk, ?_⟩
    walk_at "GO"
    cases hb : weightsD d with
    | true =>
      refine ⟨fun z => absurd z (by decide), fun _ => ?_⟩
      walk_at "GO"
      exact h1 hb
    | false =>
      refine ⟨fun _ => ?_, fun z => absurd z (by decide)⟩
      walk_at "GO"
      exact h2 hb
local macro_rules | `(tactic| walk_at "cl") => `(tactic| (first | ((with_reducible apply r_need_weights); (walk_at "wd"); (assumption))))
def sp_need_few : DSp := fun ds cs P Z => ∃ (b w : D) (m : Int), ds = [b, w, .int m] ∧ knD b = true ∧ knD w = true ∧ Due (whyFew b w m) (P .non cs) (fun y => Z (exn y) cs)
theorem r_need_few {b : Bx} {wd : D} {ws : List Int} {m : Int} {cs : Cs} {P : DP} {Z : XZ} (hwd : WD wd ws) (hw : WtOk ws) (hp : b.Pos) (hl : (ws.length : Int) ≤ m) (h : P .non cs) : sp_need_few [b.d, wd, .int m] cs P Z := ⟨_, _, m, rfl, rfl, by rcases hwd with rfl | rfl <;> exact knL_ints ws, .of (whyFew_good hwd hp hw hl) h⟩
theorem r_need_fewX {b w : D} {m : Int} {cs : Cs} {P : DP} {Z : XZ} (h1 : knD b = true) (h2 : knD w = true) (h : Due (whyFew b w m) (P .non cs) (fun y => Z (exn y) cs)) : sp_need_few [b, w, .int m] cs P Z := ⟨b, w, m, rfl, h1, h2, h⟩
theorem sc_need_few : FnScope ["box", "weights", "most"] ["box", "weights", "most"] (defScope s_need_few) := ⟨rfl, rfl, rfl, by decide +kernel, rfl, by decide +kernel, by decide +kernel⟩
theorem ok_need_few {P : Program} {w : World} {K : PySem.W.Frag} {mg : Str → Option Value} {base : Heap} (T : Txt K mg base) : FnOk P w K mg base (L2.CX P w) 5 (He.ga K "need_few") T.fd_need_few ["box", "weights", "most"] (spL K 3 sp_need_few) := by
  apply ok_def (k := 4) T.F_need_few sc_need_few
  case hb =>
    intro cdv A outer s H E hr
    exact (dss_cons (ds_expr (d_callN (ok_need_box T) (hr.mono (by decide)) rfl T.g_need_box T.F_need_box.kp (b_need_box T) takesD (da_cons (d_var 0) da_nil)))
      (dss_cons (ds_expr (d_callN (ok_need_weights T) (hr.mono (by decide)) rfl T.g_need_weights T.F_need_weights.kp (b_need_weights T) takesD (da_cons (d_var 1) da_nil)))
      (dss_one (ds_if (dt_gt (d_callB call_len_seq adq_len rfl T.n_len (by decide +kernel) (da_cons (d_var 1) da_nil)) (d_var 2)) (dss_one (ds_raise0 rfl takesD T.x_BadSizes.x T.x_BadSizes.ini T.x_BadSizes.ty (ok_i_BadSizes T) (hr.mono (by decide)) (b_i_BadSizes T) .nil (fun _ => .nil) rfl fld0 rfl T.g_BadSizes)) dss_nil))))
  case hsp =>
    skip
    rintro ds cs Q Z ⟨b, w, m, rfl, kb, kw, h⟩ _
    unfold whyFew whyBox whyWt at h
    show (_ : WS) (finD Q Z) [some _, some _, some _] cs
    walk_at "GO"
    refine r_need_boxX kb (fun hb => ?_) (fun hb => ?_)
    case refine_2 =>
      rw [badW_f hb, andW_l (by decide)] at h
      exact h.no (by decide)
    rw [badW_t hb, andW_r] at h
    walk_at "GO"
    refine r_need_weightsX kw (fun hw => ?_) (fun hw => ?_)
    case refine_2 =>
      rw [badW_f hw, andW_l (by decide)] at h
      exact h.no (by decide)
    rw [badW_t hw, andW_r] at h
    obtain ⟨ws, hwd, hwt⟩ := weightsD_inv hw
    rw [lenI_wd hwd] at h
    walk_at "GO"
    refine ⟨fun hk => ?_, fun hk => ?_⟩
    · have hk := decT hk
      rw [decide_eq_false (by omega)] at h
      walk_at "GO"
      exact h.no (by decide)
    · have hk := decF hk
      rw [decide_eq_true (by omega)] at h
      walk_at "GO"
      exact h.ok rfl
local macro_rules | `(tactic| walk_at "cl") => `(tactic| (first | ((with_reducible apply r_need_few); (walk_at "wd"); (assumption); (walk_at "pb"); (walk_at "in"))))
def sp_things_in : Nat → DSp
  | 0 => fun _ _ _ _ => False
  | n + 1 => fun ds cs P _ => ∃ (d : D), ds = [d] ∧ plD n d = true ∧ n ≤ 12 ∧ (∀ t : Tr, d = t.d → P (.int t.n) cs) ∧ ((∀ t : Tr, d ≠ t.d) → P (.int 0) cs)
theorem r_things_in {t : Tr} {cs : Cs} {P : DP} {Z : XZ} (hn : t.n ≤ 12) (h : P (.int t.n) cs) : sp_things_in 13 [t.d] cs P Z := ⟨_, rfl, t.plD 12 hn, Nat.le_refl _, fun u e => by rw [← Tr.d_inj e]; exact h, fun z => absurd rfl (z t)⟩
theorem sc_things_in : FnScope ["tree", "first", "second"] ["tree"] (defScope s_things_in) := ⟨rfl, rfl, rfl, by decide +kernel, rfl, by decide +kernel, by decide +kernel⟩
theorem ok_things_in {P : Program} {w : World} {K : PySem.W.Frag} {mg : Str → Option Value} {base : Heap} (T : Txt K mg base) (n : Nat) : FnOk P w K mg base (L2.CX P w) (n + 1) (He.ga K "things_in") T.fd_things_in ["tree"] (spL K 1 (sp_things_in n)) := by
  induction n with
  | zero => exact vacF
  | succ n G =>
  rw [show n + 1 + 1 = (n + 1) + 1 from by omega]
  apply ok_def (k := n + 1) T.F_things_in sc_things_in
  case hb =>
    intro cdv A outer s H E hr
    exact (dss_cons (ds_if (dt_eq hr.units (d_var 0) (d_tup da_nil)) (dss_one (ds_ret d_int)) dss_nil)
      (dss_cons (ds_if (dt_w (dw_or (dt_not (dt_val (d_callB call_isi adq_isi rfl T.n_isinstance (by decide +kernel) (da_cons (d_var 0) (da_cons (d_ty (n := "tuple") rfl T.n_tuple (by decide +kernel)) da_nil))))) (dw_or (dt_ne hr.units (d_callB call_len_seq adq_len rfl T.n_len (by decide +kernel) (da_cons (d_var 0) da_nil)) d_int) (dw_or1 (dt_notinQ hr.units (d_sub_ix (d_var 0) d_int) (show DE _ _ _ (wC (.tup [.str "down", .str "across"])) from d_gtup (vs := [.str "down", .str "across"]) rfl T.g_SIDES T.k_SIDES)))))) (dss_one (ds_ret d_int)) dss_nil)
      (dss_cons (ds_par (i := 1) (j := 2) rfl sc_things_in.nd rfl rfl (by decide) rfl rfl (da_cons (d_callN G hr rfl T.g_things_in T.F_things_in.kp (b_things_in T) takesD (da_cons (d_sub_ix (d_var 0) d_int) da_nil)) (da_cons (d_callN G hr rfl T.g_things_in T.F_things_in.kp (b_things_in T) takesD (da_cons (d_sub_ix (d_var 0) d_int) da_nil)) da_nil)))
      (dss_one (ds_ret (d_if (dt_w (dw_and (dt_gt (d_var 1) d_int) (dw_and1 (dt_gt (d_var 2) d_int)))) (d_add (d_var 1) (d_var 2)) d_int))))))
  case hsp =>
    skip
    rintro ds cs Q Z ⟨d, rfl, hd, hn, h, h0⟩ _
    show (_ : WS) (finD Q Z) [some _, none, none] cs
    have pd : plD 20 d = true := plD_mono _ hd (by omega)
    walk_at "GO"
    refine r_eqNilT pd (fun e => ?_) (fun e => ?_)
    · walk_at "GO"
      exact h .lf e
    cases d <;> try first
      | exact (plD_bad hd rfl).elim
      | (walk_at "GO"; exact h0 fun t e => by cases t <;> cases e)
    rename_i xs hlen
    walk_at "GO"
    by_cases hl : xs.length = 3
    case neg =>
      walk_at "GO"
      refine ⟨fun hk2 => ?_, fun hk2 => absurd (show xs.length = 3 by have := ndecF hk2; omega) hl⟩
      walk_at "GO"
      exact h0 fun t q => by
        cases t with
        | lf => exact e q
        | nd => injection q with q; rw [q] at hl; exact hl rfl
    obtain ⟨s, a, b, rfl⟩ := len_three hl
    obtain ⟨m, rfl⟩ : ∃ m, n = m + 1 := by
      cases n with
      | zero => cases hd
      | succ m => exact ⟨m, rfl⟩
    have hd' := plD_t hd
    simp only [plL, Bool.and_eq_true] at hd'
    obtain ⟨d1, d2, d3, -⟩ := hd'
    have ps : plD 20 s = true := plD_mono _ d1 (by omega)
    walk_at "GO"
    refine ⟨fun hk2 => absurd hk2 (by simp), fun _ => ?_⟩
    walk_at "GO"
    refine r_ninSides ps (fun dn es => ?_) (fun es => ?_)
    case refine_2 =>
      walk_at "GO"
      exact h0 fun t q => by
        cases t with
        | lf => exact e q
        | nd dn x y => injection q with q; injection q with q _; exact es dn q
    subst es
    walk_at "GO"
    refine ⟨a, rfl, d2, by omega, fun x ex => ?_, fun ex => ?_⟩
    · have := x.n_pos
      walk_at "GO"
      refine ⟨b, rfl, d3, by omega, fun y ey => ?_, fun ey => ?_⟩
      · have := y.n_pos
        have h2 := h (.nd dn x y) (by rw [ex, ey]; rfl)
        rw [show ((Tr.nd dn x y).n : Int) = x.n + y.n from Int.natCast_add _ _] at h2
        walk_at "GO"
        refine r_pos (by omega) ?_
        walk_at "GO"
        refine r_pos (by omega) ?_
        walk_at "GO"
        exact h2
      · walk_at "GO"
        refine r_pos (by omega) ?_
        walk_at "GO"
        refine r_neg_ (by omega) ?_
        walk_at "GO"
        exact h0 fun t q => by
          cases t with
          | lf => exact e q
          | nd dn x y => injection q with q; injection q with _ q; injection q with _ q; injection q with q _; exact ey y q
    · walk_at "GO"
      refine ⟨b, rfl, d3, by omega, fun y ey => ?_, fun ey => ?_⟩
      all_goals
        walk_at "GO"
        refine r_neg_ (by omega) ?_
        walk_at "GO"
        exact h0 fun t q => by
          cases t with
          | lf => exact e q
          | nd dn x y => injection q with q; injection q with _ q; injection q with q _; exact ex x q
local macro_rules | `(tactic| walk_at "cl") => `(tactic| (first | ((with_reducible apply r_things_in); (walk_at "in"))))
def sp_need_tree : DSp := fun ds cs P Z => ∃ (t w : D) (ws : List Int), ds = [t, w] ∧ plD 12 t = true ∧ WD w ws ∧ WtOk ws ∧ Due (whyTree t ws.length) (P .non cs) (fun y => Z (exn y) cs)
theorem r_need_tree {t : Tr} {wd : D} {ws : List Int} {cs : Cs} {P : DP} {Z : XZ} (hwd : WD wd ws) (hw : WtOk ws) (hn : t.n = ws.length) (hl : ws.length ≤ 12) (h : P .non cs) : sp_need_tree [t.d, wd] cs P Z :=
  ⟨_, _, ws, rfl, t.plD 12 (by omega), hwd, hw, .of (badW_t (treeOk_t ⟨t, rfl, by omega⟩)) h⟩
theorem r_need_treeX {t w : D} {ws : List Int} {cs : Cs} {P : DP} {Z : XZ} (ht : plD 12 t = true) (hwd : WD w ws) (hw : WtOk ws) (h : Due (whyTree t ws.length) (P .non cs) (fun y => Z (exn y) cs)) : sp_need_tree [t, w] cs P Z := ⟨t, w, ws, rfl, ht, hwd, hw, h⟩
theorem sc_need_tree : FnScope ["tree", "weights"] ["tree", "weights"] (defScope s_need_tree) := ⟨rfl, rfl, rfl, by decide +kernel, rfl, by decide +kernel, by decide +kernel⟩
theorem ok_need_tree {P : Program} {w : World} {K : PySem.W.Frag} {mg : Str → Option Value} {base : Heap} (T : Txt K mg base) : FnOk P w K mg base (L2.CX P w) 15 (He.ga K "need_tree") T.fd_need_tree ["tree", "weights"] (spL K 2 sp_need_tree) := by
  apply ok_def (k := 14) T.F_need_tree sc_need_tree
  case hb =>
    intro cdv A outer s H E hr
    exact (dss_one (ds_if (dt_ne hr.units (d_callN (ok_things_in T 13) (hr.mono (by decide)) rfl T.g_things_in T.F_things_in.kp (b_things_in T) takesD (da_cons (d_var 0) da_nil)) (d_callB call_len_seq adq_len rfl T.n_len (by decide +kernel) (da_cons (d_var 1) da_nil))) (dss_one (ds_raise0 rfl takesD T.x_BadSizes.x T.x_BadSizes.ini T.x_BadSizes.ty (ok_i_BadSizes T) (hr.mono (by decide)) (b_i_BadSizes T) .nil (fun _ => .nil) rfl fld0 rfl T.g_BadSizes)) dss_nil))
  case hsp =>
    skip
    rintro ds cs Q Z ⟨t, w, ws, rfl, ht, hwd, hw, h⟩ _
    have l0 := hw.l0
    unfold whyTree at h
    rw [show ((ws.length : Int)).toNat = ws.length by omega] at h
    show (_ : WS) (finD Q Z) [some _, some _] cs
    walk_at "GO"
    refine ⟨t, rfl, ht, Nat.le_refl _, fun u e => ?_, fun e => ?_⟩
    · walk_at "GO"
      refine ⟨fun hk => ?_, fun hk => ?_⟩
      · have hk := ndecT hk
        walk_at "GO"
        rw [treeOk_f (fun z => by obtain ⟨v, e1, e2⟩ := z; rw [e] at e1; rw [← Tr.d_inj e1] at e2; omega)] at h
        exact h.no (by decide)
      · have hk := ndecF hk
        walk_at "GO"
        rw [treeOk_t ⟨u, e, by omega⟩] at h
        exact h.ok rfl
    · walk_at "GO"
      refine r_nneg (by omega) ?_
      walk_at "GO"
      rw [treeOk_f (fun z => by obtain ⟨v, e1, e2⟩ := z; exact e v e1)] at h
      exact h.no (by decide)
local macro_rules | `(tactic| walk_at "cl") => `(tactic| (first | ((with_reducible apply r_need_tree); (walk_at "wd"); (assumption); (assumption); (walk_at "in"))))
def sp_less : DSp := fun ds cs P _ => ∃ x y : Rat, ds = [dR x, dR y] ∧ Sz 4000 x ∧ Sz 4000 y ∧ P (.bl (decide (x < y))) cs
theorem r_less {x y : Rat} {cs : Cs} {P : DP} {Z : XZ} (hx : Sz 4000 x) (hy : Sz 4000 y) (h : P (.bl (decide (x < y))) cs) : sp_less [dR x, dR y] cs P Z := ⟨x, y, rfl, hx, hy, h⟩
theorem sc_less : FnScope ["one", "other"] ["one", "other"] (defScope s_less) := ⟨rfl, rfl, rfl, by decide +kernel, rfl, by decide +kernel, by decide +kernel⟩
theorem ok_less {P : Program} {w : World} {K : PySem.W.Frag} {mg : Str → Option Value} {base : Heap} (T : Txt K mg base) : FnOk P w K mg base (L2.CX P w) 1 (He.ga K "less") T.fd_less ["one", "other"] (spL K 2 sp_less) := by
  apply ok_def (k := 0) T.F_less sc_less
  case hb =>
    intro cdv A outer s H E hr
    exact (dss_one (ds_ret (d_lt (d_mul (d_sub_ix (d_var 0) d_int) (d_sub_ix (d_var 1) d_int)) (d_mul (d_sub_ix (d_var 1) d_int) (d_sub_ix (d_var 0) d_int)))))
  case hsp =>
    skip
    rintro ds cs Q Z ⟨x, y, rfl, hx, hy, h⟩ _
    show (_ : WS) (finD Q Z) [some _, some _] cs
    have m1 := hx.nd hy
    have m2 := hy.nd hx
    walk_at "go"
    have e : decide (x < y) = decide (x.num * (y.den : Int) < y.num * (x.den : Int)) := decide_eq_decide.mpr (Rat.lt_iff x y)
    rw [e] at h
    exact h
local macro_rules | `(tactic| walk_at "cl") => `(tactic| (first | ((with_reducible apply r_less); (walk_at "sz"); (walk_at "sz"))))
def sp_greatest : DSp := fun ds cs P _ => ∃ rs : List Rat, ds = [.lst (rs.map dR)] ∧ rs ≠ [] ∧ (∀ r ∈ rs, Sz 4000 r) ∧ P (dR (maxL rs)) cs
theorem r_greatest {rs : List Rat} {cs : Cs} {P : DP} {Z : XZ} (h0 : rs ≠ []) (hs : ∀ r ∈ rs, Sz 4000 r) (h : P (dR (maxL rs)) cs) : sp_greatest [.lst (rs.map dR)] cs P Z := ⟨rs, rfl, h0, hs, h⟩
theorem sc_greatest : FnScope ["parts", "best", "rest", "one"] ["parts"] (defScope s_greatest) := ⟨rfl, rfl, rfl, by decide +kernel, rfl, by decide +kernel, by decide +kernel⟩
theorem ok_greatest {P : Program} {w : World} {K : PySem.W.Frag} {mg : Str → Option Value} {base : Heap} (T : Txt K mg base) : FnOk P w K mg base (L2.CX P w) 2 (He.ga K "greatest") T.fd_greatest ["parts"] (spL K 1 sp_greatest) := by
  apply ok_def (k := 1) T.F_greatest sc_greatest
  case hb =>
    intro cdv A outer s H E hr
    exact (dss_cons (ds_asg (d_var 0) (dg_star rfl (dg_name (i := 1) sc_greatest.nd rfl (Or.inl rfl)) (dg_name (i := 2) sc_greatest.nd rfl (Or.inl rfl))))
      (dss_cons (ds_for passD rfl (di_list (d_var 2)) (dg_name (i := 3) sc_greatest.nd rfl (Or.inl rfl)) (dss_one (ds_if (dt_val (d_callN (ok_less T) (hr.mono (by decide)) rfl T.g_less T.F_less.kp (b_less T) takesD (da_cons (d_var 1) (da_cons (d_var 3) da_nil)))) (dss_one (ds_set (i := 1) sc_greatest.nd rfl (Or.inl rfl) (d_var 3))) dss_nil)))
      (dss_one (ds_ret (d_var 1)))))
  case hsp =>
    skip
    rintro ds cs Q Z ⟨rs, rfl, h0, hs, h⟩ _
    show (_ : WS) (finD Q Z) [some _, none, none, none] cs
    cases rs with
    | nil => exact absurd rfl h0
    | cons x xs =>
      rw [List.map_cons]
      walk_at "GO"
      have hx := fun (y : Rat) (z : IsMax y (x :: xs)) => hs y z.mem
      refine r_loopL (fun i ρ cs' => ∃ (c3 : Option D), ρ = [some (.lst (dR x :: xs.map dR)), some (dR ((xs.take i).foldl mxR x)), some (.lst (xs.map dR)), c3] ∧ cs = cs') ⟨_, rfl, rfl⟩ ?_ ?_
      · rintro i r ρ cs' N hd ⟨c3, rfl, rfl⟩ hN
        have hr := hs r (List.mem_cons_of_mem _ (List.mem_of_getElem? hd))
        have hm : Sz 4000 ((xs.take i).foldl mxR x) := by
          have := (fold_is (xs.take i) x).mem
          refine hs _ ?_
          rcases List.mem_cons.mp this with e | e
          · rw [e]; exact List.mem_cons_self ..
          · exact List.mem_cons_of_mem _ (List.mem_of_mem_take e)
        walk_at "GO"
        have ef := fold_take (x := x) hd
        refine ⟨fun hk => ?_, fun hk => ?_⟩
        · walk_at "GO"
          rw [mxR_pos (decT hk)] at ef
          exact hN _ _ ⟨_, by rw [ef]; rfl, rfl⟩
        · walk_at "GO"
          rw [mxR_neg (decF hk)] at ef
          exact hN _ _ ⟨_, by rw [ef]; rfl, rfl⟩
      · rintro ρ cs' ⟨c3, rfl, rfl⟩
        walk_at "GO"
        rw [List.take_length]
        exact h
local macro_rules | `(tactic| walk_at "cl") => `(tactic| (first | ((with_reducible apply r_greatest); (assumption); (assumption))))
def sp_part : DSp := fun ds cs P Z => ∃ a b : Int, ds = [.int a, .int b] ∧ b.natAbs < 2 ^ 9000 ∧ (b ≠ 0 → P (dR (Rat.divInt a b)) cs) ∧ (b = 0 → Z (exn "BadPart") cs)
theorem r_part {a b : Int} {cs : Cs} {P : DP} {Z : XZ} (b0 : b ≠ 0) (hb : b.natAbs < 2 ^ 9000) (h : P (dR (Rat.divInt a b)) cs) : sp_part [.int a, .int b] cs P Z := ⟨a, b, rfl, hb, fun _ => h, fun z => absurd z b0⟩
theorem r_partX {a b : Int} {cs : Cs} {P : DP} {Z : XZ} (hb : b.natAbs < 2 ^ 9000) (h1 : b ≠ 0 → P (dR (Rat.divInt a b)) cs) (h2 : b = 0 → Z (exn "BadPart") cs) : sp_part [.int a, .int b] cs P Z := ⟨a, b, rfl, hb, h1, h2⟩
theorem sc_part : FnScope ["above", "below", "by"] ["above", "below"] (defScope s_part) := ⟨rfl, rfl, rfl, by decide +kernel, rfl, by decide +kernel, by decide +kernel⟩
theorem ok_part {P : Program} {w : World} {K : PySem.W.Frag} {mg : Str → Option Value} {base : Heap} (T : Txt K mg base) : FnOk P w K mg base (L2.CX P w) 4 (He.ga K "part") T.fd_part ["above", "below"] (spL K 2 sp_part) := by
  apply ok_def (k := 3) T.F_part sc_part
  case hb =>
    intro cdv A outer s H E hr
    exact (dss_cons (ds_if (dt_eq hr.units (d_var 1) d_int) (dss_one (ds_raise0 rfl takesD T.x_BadPart.x T.x_BadPart.ini T.x_BadPart.ty (ok_i_BadPart T) (hr.mono (by decide)) (b_i_BadPart T) .nil (fun _ => .nil) rfl fld0 rfl T.g_BadPart)) dss_nil)
      (dss_cons (ds_if (dt_lt (d_var 1) d_int) (dss_one (ds_par (i := 0) (j := 1) rfl sc_part.nd rfl rfl (by decide) rfl rfl (da_cons (d_neg (d_var 0)) (da_cons (d_neg (d_var 1)) da_nil)))) dss_nil)
      (dss_cons (ds_set (i := 2) sc_part.nd rfl (Or.inl rfl) (d_callN (ok_common T) (hr.mono (by decide)) rfl T.g_common T.F_common.kp (b_common T) takesD (da_cons (d_callB call_abs adq_abs rfl T.n_abs (by decide +kernel) (da_cons (d_var 0) da_nil)) (da_cons (d_var 1) da_nil))))
      (dss_one (ds_ret (d_tup (da_cons (d_fdiv (d_var 0) (d_var 2)) (da_cons (d_fdiv (d_var 1) (d_var 2)) da_nil))))))))
  case hsp =>
    skip
    rintro ds cs Q Z ⟨a, b, rfl, hs, h, hz⟩ _
    show (_ : WS) (finD Q Z) [some _, some _, none] cs
    walk_at "go"
    refine ⟨fun hk => ?_, fun hk => ?_⟩
    · exact r_raise (hz (decT hk))
    have hb : b ≠ 0 := decF hk
    replace h := h hb
    walk_at "g1"
    refine r_key (N := fun ρ' cs' => ∃ a' b' : Int, ρ' = [some (.int a'), some (.int b'), none] ∧ cs' = cs ∧ 0 < b' ∧ b'.natAbs < 2 ^ 9000 ∧ Rat.divInt a' b' = Rat.divInt a b) ?_ (fun nx key => ?_)
    · rintro ρ' cs' ⟨a', b', rfl, rfl, hp, hz, he⟩
      walk_at "go"
      rw [abs_nat]
      have hn : b' = (b'.natAbs : Int) := by omega
      refine ⟨a'.natAbs, b'.natAbs, by rw [← hn], ?_⟩
      have g := gcd_ok (a := a'.natAbs) (b := b'.natAbs) (by omega) hz
      obtain ⟨e1, e2⟩ := part_pos a' b' hp
      walk_at "go"
      show Q (.tup [.int (a' / _), .int (b' / _)]) cs'
      rw [e1, e2, he]
      exact h
    · walk_at "go"
      refine ⟨fun hk2 => ?_, fun hk2 => ?_⟩
      · have hlt := decT hk2
        walk_at "go"
        exact key _ _ ⟨-a, -b, rfl, rfl, by omega, by rw [Int.natAbs_neg]; exact hs, part_neg a b⟩
      · have hlt := decF hk2
        walk_at "go"
        exact key _ _ ⟨a, b, rfl, rfl, by omega, hs, rfl⟩
local macro_rules | `(tactic| walk_at "cl") => `(tactic| (first | ((with_reducible apply r_part); (walk_at "in"); (walk_at "p9"))))
def sp_over : DSp := fun ds cs P Z => ∃ x y : Rat, ds = [dR x, dR y] ∧ Sz 4000 x ∧ Sz 4000 y ∧ (y ≠ 0 → P (dR (x / y)) cs) ∧ (y = 0 → Z (exn "BadPart") cs)
theorem r_over {x y : Rat} {cs : Cs} {P : DP} {Z : XZ} (hx : Sz 4000 x) (hy : Sz 4000 y) (h0 : y ≠ 0) (h : P (dR (x / y)) cs) : sp_over [dR x, dR y] cs P Z := ⟨x, y, rfl, hx, hy, fun _ => h, fun z => absurd z h0⟩
theorem sc_over : FnScope ["one", "other"] ["one", "other"] (defScope s_over) := ⟨rfl, rfl, rfl, by decide +kernel, rfl, by decide +kernel, by decide +kernel⟩
theorem ok_over {P : Program} {w : World} {K : PySem.W.Frag} {mg : Str → Option Value} {base : Heap} (T : Txt K mg base) : FnOk P w K mg base (L2.CX P w) 5 (He.ga K "over") T.fd_over ["one", "other"] (spL K 2 sp_over) := by
  apply ok_def (k := 4) T.F_over sc_over
  case hb =>
    intro cdv A outer s H E hr
    exact (dss_one (ds_ret (d_callN (ok_part T) (hr.mono (by decide)) rfl T.g_part T.F_part.kp (b_part T) takesD (da_cons (d_mul (d_sub_ix (d_var 0) d_int) (d_sub_ix (d_var 1) d_int)) (da_cons (d_mul (d_sub_ix (d_var 0) d_int) (d_sub_ix (d_var 1) d_int)) da_nil)))))
  case hsp =>
    skip
    rintro ds cs Q Z ⟨x, y, rfl, hx, hy, h1, h2⟩ _
    show (_ : WS) (finD Q Z) [some _, some _] cs
    have m1 := hx.nd hy
    have m2 := hx.dn hy
    walk_at "go"
    have e : ((x.den : Int) * y.num ≠ 0) ↔ y ≠ 0 := ⟨fun z e => z (by rw [e]; exact Int.mul_zero _), fun h0 => Int.mul_ne_zero (den_ne x) (fun z => h0 (Rat.num_eq_zero.mp z))⟩
    exact r_partX (dn_ok hx hy (by decide)) (fun z => by rw [divInt_div]; exact h1 (e.mp z)) (fun z => h2 (Classical.byContradiction fun q => e.mpr q z))
local macro_rules | `(tactic| walk_at "cl") => `(tactic| (first | ((with_reducible apply r_over); (walk_at "sz"); (walk_at "sz"); (walk_at "nz"))))
def sp_shape_by : DSp := fun ds cs P _ => ∃ x y : Rat, ds = [dR x, dR y] ∧ Sz 4000 x ∧ Sz 4000 y ∧ 0 < x ∧ 0 < y ∧ P (dR (shapeR x y)) cs
theorem r_shape_by {x y : Rat} {cs : Cs} {P : DP} {Z : XZ} (hx : Sz 4000 x) (hy : Sz 4000 y) (x0 : 0 < x) (y0 : 0 < y) (h : P (dR (shapeR x y)) cs) : sp_shape_by [dR x, dR y] cs P Z := ⟨x, y, rfl, hx, hy, x0, y0, h⟩
theorem sc_shape_by : FnScope ["wide", "high"] ["wide", "high"] (defScope s_shape_by) := ⟨rfl, rfl, rfl, by decide +kernel, rfl, by decide +kernel, by decide +kernel⟩
theorem ok_shape_by {P : Program} {w : World} {K : PySem.W.Frag} {mg : Str → Option Value} {base : Heap} (T : Txt K mg base) : FnOk P w K mg base (L2.CX P w) 6 (He.ga K "shape_by") T.fd_shape_by ["wide", "high"] (spL K 2 sp_shape_by) := by
  apply ok_def (k := 5) T.F_shape_by sc_shape_by
  case hb =>
    intro cdv A outer s H E hr
    exact (dss_one (ds_ret (d_if (dt_val (d_callN (ok_less T) (hr.mono (by decide)) rfl T.g_less T.F_less.kp (b_less T) takesD (da_cons (d_var 0) (da_cons (d_var 1) da_nil)))) (d_callN (ok_over T) (hr.mono (by decide)) rfl T.g_over T.F_over.kp (b_over T) takesD (da_cons (d_var 1) (da_cons (d_var 0) da_nil))) (d_callN (ok_over T) (hr.mono (by decide)) rfl T.g_over T.F_over.kp (b_over T) takesD (da_cons (d_var 0) (da_cons (d_var 1) da_nil))))))
  case hsp =>
    skip
    rintro ds cs Q Z ⟨x, y, rfl, hx, hy, x0, y0, h⟩ _
    show (_ : WS) (finD Q Z) [some _, some _] cs
    walk_at "go"
    refine ⟨x, y, rfl, hx, hy, ?_⟩
    have x1 : x ≠ 0 := Rat.ne_of_gt x0
    have y1 : y ≠ 0 := Rat.ne_of_gt y0
    refine ⟨fun hk => ?_, fun hk => ?_⟩
    · walk_at "go"
      refine r_over hy hx x1 ?_
      rw [shapeR, if_pos (decT hk)] at h
      exact h
    · walk_at "go"
      refine r_over hx hy y1 ?_
      rw [shapeR, if_neg (decF hk)] at h
      exact h
local macro_rules | `(tactic| walk_at "cl") => `(tactic| (first | ((with_reducible apply r_shape_by); (walk_at "sz"); (walk_at "sz"); (walk_at "pz"); (walk_at "pz"))))
def sp_times : DSp := fun ds cs P _ => ∃ x y : Rat, ds = [dR x, dR y] ∧ Sz 4000 x ∧ Sz 4000 y ∧ P (dR (x * y)) cs
theorem r_times {x y : Rat} {cs : Cs} {P : DP} {Z : XZ} (hx : Sz 4000 x) (hy : Sz 4000 y) (h : P (dR (x * y)) cs) : sp_times [dR x, dR y] cs P Z := ⟨x, y, rfl, hx, hy, h⟩
theorem sc_times : FnScope ["one", "other"] ["one", "other"] (defScope s_times) := ⟨rfl, rfl, rfl, by decide +kernel, rfl, by decide +kernel, by decide +kernel⟩
theorem ok_times {P : Program} {w : World} {K : PySem.W.Frag} {mg : Str → Option Value} {base : Heap} (T : Txt K mg base) : FnOk P w K mg base (L2.CX P w) 5 (He.ga K "times") T.fd_times ["one", "other"] (spL K 2 sp_times) := by
  apply ok_def (k := 4) T.F_times sc_times
  case hb =>
    intro cdv A outer s H E hr
    exact (dss_one (ds_ret (d_callN (ok_part T) (hr.mono (by decide)) rfl T.g_part T.F_part.kp (b_part T) takesD (da_cons (d_mul (d_sub_ix (d_var 0) d_int) (d_sub_ix (d_var 1) d_int)) (da_cons (d_mul (d_sub_ix (d_var 0) d_int) (d_sub_ix (d_var 1) d_int)) da_nil)))))
  case hsp =>
    skip
    rintro ds cs Q Z ⟨x, y, rfl, hx, hy, h⟩ _
    show (_ : WS) (finD Q Z) [some _, some _] cs
    have m1 := hx.nd hy
    have m2 := hy.nd hx
    have m3 := hx.dd hy
    have m4 := hx.nn hy
    walk_at "go"
    exact r_part (Int.mul_ne_zero (den_ne x) (den_ne y)) (dd_ok hx hy (by decide)) (by rw [divInt_mul]; exact h)
local macro_rules | `(tactic| walk_at "cl") => `(tactic| (first | ((with_reducible apply r_times); (walk_at "sz"); (walk_at "sz"))))
def sp_plus : DSp := fun ds cs P _ => ∃ x y : Rat, ds = [dR x, dR y] ∧ Sz 4000 x ∧ Sz 4000 y ∧ P (dR (x + y)) cs
theorem r_plus {x y : Rat} {cs : Cs} {P : DP} {Z : XZ} (hx : Sz 4000 x) (hy : Sz 4000 y) (h : P (dR (x + y)) cs) : sp_plus [dR x, dR y] cs P Z := ⟨x, y, rfl, hx, hy, h⟩
theorem sc_plus : FnScope ["one", "other"] ["one", "other"] (defScope s_plus) := ⟨rfl, rfl, rfl, by decide +kernel, rfl, by decide +kernel, by decide +kernel⟩
theorem ok_plus {P : Program} {w : World} {K : PySem.W.Frag} {mg : Str → Option Value} {base : Heap} (T : Txt K mg base) : FnOk P w K mg base (L2.CX P w) 5 (He.ga K "plus") T.fd_plus ["one", "other"] (spL K 2 sp_plus) := by
  apply ok_def (k := 4) T.F_plus sc_plus
  case hb =>
    intro cdv A outer s H E hr
    exact (dss_one (ds_ret (d_callN (ok_part T) (hr.mono (by decide)) rfl T.g_part T.F_part.kp (b_part T) takesD (da_cons (d_add (d_mul (d_sub_ix (d_var 0) d_int) (d_sub_ix (d_var 1) d_int)) (d_mul (d_sub_ix (d_var 1) d_int) (d_sub_ix (d_var 0) d_int))) (da_cons (d_mul (d_sub_ix (d_var 0) d_int) (d_sub_ix (d_var 1) d_int)) da_nil)))))
  case hsp =>
    skip
    rintro ds cs Q Z ⟨x, y, rfl, hx, hy, h⟩ _
    show (_ : WS) (finD Q Z) [some _, some _] cs
    have m1 := hx.nd hy
    have m2 := hy.nd hx
    have m3 := hx.dd hy
    have m4 := hx.nn hy
    walk_at "go"
    exact r_part (Int.mul_ne_zero (den_ne x) (den_ne y)) (dd_ok hx hy (by decide)) (by rw [divInt_add]; exact h)
local macro_rules | `(tactic| walk_at "cl") => `(tactic| (first | ((with_reducible apply r_plus); (walk_at "sz"); (walk_at "sz"))))
def sp_split_by : DSp := fun ds cs P _ => ∃ (b : Bx) (ws : List Int) (dn : Bool), (ds = [b.d, .lst (ws.map D.int), sideD dn] ∨ ds = [b.d, .tup (ws.map D.int), sideD dn]) ∧ WOk ws ∧ b.Sz 1900 ∧ ∀ p, p ∉ adr cs → P (.opq (.ref p)) ((p, .lst ((splitB b ws dn).map Bx.d)) :: cs)
theorem sc_split_by : FnScope ["box", "weights", "side", "left", "top", "wide", "high", "whole", "found", "weight", "share", "step"] ["box", "weights", "side"] (defScope s_split_by) := ⟨rfl, rfl, rfl, by decide +kernel, rfl, by decide +kernel, by decide +kernel⟩
theorem ok_split_by {P : Program} {w : World} {K : PySem.W.Frag} {mg : Str → Option Value} {base : Heap} (T : Txt K mg base) : FnOk P w K mg base (L2.CX P w) 6 (He.ga K "split_by") T.fd_split_by ["box", "weights", "side"] (spL K 3 sp_split_by) := by
  apply ok_def (k := 5) T.F_split_by sc_split_by
  case hb =>
    intro cdv A outer s H E hr
    exact (dss_cons (ds_asg (d_var 0) (dg_tup (n := 4) rfl (dgs_cons (dg_name (i := 3) sc_split_by.nd rfl (Or.inl rfl)) (dgs_cons (dg_name (i := 4) sc_split_by.nd rfl (Or.inl rfl)) (dgs_cons (dg_name (i := 5) sc_split_by.nd rfl (Or.inl rfl)) (dgs_cons (dg_name (i := 6) sc_split_by.nd rfl (Or.inl rfl)) dgs_nil))))))
      (dss_cons (ds_set (i := 7) sc_split_by.nd rfl (Or.inl rfl) (d_callB (cr_sumA rfl) adq_sumA rfl T.n_sum (by decide +kernel) (da_cons (d_var 1) da_nil)))
      (dss_cons (ds_set (i := 8) sc_split_by.nd rfl (Or.inl rfl) (d_lstM da_nil))
      (dss_cons (ds_for passD rfl (di_any (d_var 1)) (dg_name (i := 9) sc_split_by.nd rfl (Or.inl rfl)) (dss_cons (ds_set (i := 10) sc_split_by.nd rfl (Or.inl rfl) (d_callN (ok_part T) (hr.mono (by decide)) rfl T.g_part T.F_part.kp (b_part T) takesD (da_cons (d_var 9) (da_cons (d_var 7) da_nil))))
      (dss_one (ds_if (dt_eq hr.units (d_var 2) (d_gstr rfl T.c_DOWN)) (dss_cons (ds_set (i := 11) sc_split_by.nd rfl (Or.inl rfl) (d_callN (ok_times T) (hr.mono (by decide)) rfl T.g_times T.F_times.kp (b_times T) takesD (da_cons (d_var 6) (da_cons (d_var 10) da_nil))))
      (dss_cons (ds_expr (d_append (d_var 8) (da_cons (d_tup (da_cons (d_var 3) (da_cons (d_var 4) (da_cons (d_var 5) (da_cons (d_var 11) da_nil))))) da_nil)))
      (dss_one (ds_set (i := 4) sc_split_by.nd rfl (Or.inl rfl) (d_callN (ok_plus T) (hr.mono (by decide)) rfl T.g_plus T.F_plus.kp (b_plus T) takesD (da_cons (d_var 4) (da_cons (d_var 11) da_nil))))))) (dss_cons (ds_set (i := 11) sc_split_by.nd rfl (Or.inl rfl) (d_callN (ok_times T) (hr.mono (by decide)) rfl T.g_times T.F_times.kp (b_times T) takesD (da_cons (d_var 5) (da_cons (d_var 10) da_nil))))
      (dss_cons (ds_expr (d_append (d_var 8) (da_cons (d_tup (da_cons (d_var 3) (da_cons (d_var 4) (da_cons (d_var 11) (da_cons (d_var 6) da_nil))))) da_nil)))
      (dss_one (ds_set (i := 3) sc_split_by.nd rfl (Or.inl rfl) (d_callN (ok_plus T) (hr.mono (by decide)) rfl T.g_plus T.F_plus.kp (b_plus T) takesD (da_cons (d_var 3) (da_cons (d_var 11) da_nil)))))))))))
      (dss_one (ds_ret (d_var 8)))))))
  case hsp =>
    skip
    rintro ds cs Q Z ⟨b, ws, dn, hds, hw, hb, h⟩ _
    have hs := hw.sum_pos
    have hs2 := hw.sum
    rcases hds with rfl | rfl
    all_goals
      show (_ : WS) (finD Q Z) [some _, some _, some _, none, none, none, none, none, none, none, none, none] cs
      unfold Bx.d dB
      walk_at "go"
      refine ⟨ws, by first | exact .inl rfl | exact .inr rfl, ?_⟩
      walk_at "go"
      intro p hp
      walk_at "go"
      cases dn
      · refine r_loop0 (fun i ρ cs' => ∃ c0 c1 c9 c10 c11, ρ = [c0, c1, some (sideD false), some (dR (b.l + b.w * Rat.divInt (preS ws i) ws.sum)), some (dR b.t), some (dR b.w), some (dR b.h), some (.int ws.sum), some (.opq (.ref p)), c9, c10, c11] ∧ cs' = (p, .lst ((List.range i).map fun j => (splitAt_ b ws false j).d)) :: cs) ⟨_, _, none, none, none, by rw [preS_zero, show Rat.divInt 0 ws.sum = 0 from Rat.zero_divInt _, Rat.mul_zero, Rat.add_zero]; exact rfl, rfl⟩ ?_ ?_
        · rintro i d ρ cs' N hd ⟨c0, c1, c9, c10, c11, rfl, rfl⟩ hN
          obtain ⟨wt, hwt, rfl⟩ := get_map_int hd
          have hi : i < ws.length := (List.getElem?_eq_some_iff.mp hwt).1
          have f1 := Sz.frac (a := wt) (by have := hw.pos _ (List.mem_of_getElem? hwt); omega) (by have := mem_le_sum hw.pos hwt; omega) hs hs2
          have f2 := Sz.frac (preS_nonneg hw.pos i) (by have := preS_le hw.pos i; omega) hs hs2
          walk_at "go"
          refine r_part (by omega) (szlt hs hs2) ?_
          walk_at "go"
          refine ⟨b.w, Rat.divInt wt ws.sum, rfl, hb.w.mono (by decide), f1.mono (by decide), ?_⟩
          walk_at "go"
          refine r_appendH (by rw [List.length_map, List.length_range]; have := hw.l1; omega) ?_
          walk_at "go"
          refine ⟨b.l + b.w * Rat.divInt (preS ws i) ws.sum, b.w * Rat.divInt wt ws.sum, rfl, (hb.l.add (hb.w.mul f2)).mono (by decide), (hb.w.mul f1).mono (by decide), ?_⟩
          walk_at "go"
          rw [step_rat _ _ (by omega), ← preS_succ hwt]
          refine hN _ _ ⟨_, _, _, _, _, rfl, ?_⟩
          have e2 : splitAt_ b ws false i = cutB b false (Rat.divInt (preS ws i) ws.sum) (Rat.divInt wt ws.sum) := by
            unfold splitAt_
            rw [List.getD_eq_getElem?_getD, hwt]; rfl
          rw [List.range_succ, List.map_append, List.map_cons, List.map_nil, e2]
          rfl
        · rintro ρ cs' ⟨c0, c1, c9, c10, c11, rfl, rfl⟩
          walk_at "go"
          rw [List.length_map]
          have h2 := h p hp
          unfold splitB at h2
          rw [List.map_map] at h2
          exact h2
      · refine r_loop0 (fun i ρ cs' => ∃ c0 c1 c9 c10 c11, ρ = [c0, c1, some (sideD true), some (dR b.l), some (dR (b.t + b.h * Rat.divInt (preS ws i) ws.sum)), some (dR b.w), some (dR b.h), some (.int ws.sum), some (.opq (.ref p)), c9, c10, c11] ∧ cs' = (p, .lst ((List.range i).map fun j => (splitAt_ b ws true j).d)) :: cs) ⟨_, _, none, none, none, by rw [preS_zero, show Rat.divInt 0 ws.sum = 0 from Rat.zero_divInt _, Rat.mul_zero, Rat.add_zero]; exact rfl, rfl⟩ ?_ ?_
        · rintro i d ρ cs' N hd ⟨c0, c1, c9, c10, c11, rfl, rfl⟩ hN
          obtain ⟨wt, hwt, rfl⟩ := get_map_int hd
          have hi : i < ws.length := (List.getElem?_eq_some_iff.mp hwt).1
          have f1 := Sz.frac (a := wt) (by have := hw.pos _ (List.mem_of_getElem? hwt); omega) (by have := mem_le_sum hw.pos hwt; omega) hs hs2
          have f2 := Sz.frac (preS_nonneg hw.pos i) (by have := preS_le hw.pos i; omega) hs hs2
          walk_at "go"
          refine r_part (by omega) (szlt hs hs2) ?_
          walk_at "go"
          refine ⟨b.h, Rat.divInt wt ws.sum, rfl, hb.h.mono (by decide), f1.mono (by decide), ?_⟩
          walk_at "go"
          refine r_appendH (by rw [List.length_map, List.length_range]; have := hw.l1; omega) ?_
          walk_at "go"
          refine ⟨b.t + b.h * Rat.divInt (preS ws i) ws.sum, b.h * Rat.divInt wt ws.sum, rfl, (hb.t.add (hb.h.mul f2)).mono (by decide), (hb.h.mul f1).mono (by decide), ?_⟩
          walk_at "go"
          rw [step_rat _ _ (by omega), ← preS_succ hwt]
          refine hN _ _ ⟨_, _, _, _, _, rfl, ?_⟩
          have e2 : splitAt_ b ws true i = cutB b true (Rat.divInt (preS ws i) ws.sum) (Rat.divInt wt ws.sum) := by
            unfold splitAt_
            rw [List.getD_eq_getElem?_getD, hwt]; rfl
          rw [List.range_succ, List.map_append, List.map_cons, List.map_nil, e2]
          rfl
        · rintro ρ cs' ⟨c0, c1, c9, c10, c11, rfl, rfl⟩
          walk_at "go"
          rw [List.length_map]
          have h2 := h p hp
          unfold splitB at h2
          rw [List.map_map] at h2
          exact h2
def twoD (b : Bx) (ws : List Int) (k : Nat) (dn : Bool) : D := .tup [.tup [(fstB b ws k dn).d, .lst ((ws.take k).map D.int)], .tup [(sndB b ws k dn).d, .lst ((ws.drop k).map D.int)]]
def sp_two_by : DSp := fun ds cs P _ => ∃ (b : Bx) (wd : D) (ws : List Int) (k : Nat) (dn : Bool), ds = [b.d, wd, .int (k : Int), sideD dn] ∧ WD wd ws ∧ WtOk ws ∧ 1 ≤ k ∧ k < ws.length ∧ b.Sz 1900 ∧ P (twoD b ws k dn) cs
theorem r_two_by {b : Bx} {wd : D} {ws : List Int} {k : Nat} {dn : Bool} {cs : Cs} {P : DP} {Z : XZ} (hwd : WD wd ws) (hw : WtOk ws) (k0 : 1 ≤ k) (k1 : k < ws.length) (hb : b.Sz 1900) (h : P (twoD b ws k dn) cs) : sp_two_by [b.d, wd, .int (k : Int), sideD dn] cs P Z := ⟨b, wd, ws, k, dn, rfl, hwd, hw, k0, k1, hb, h⟩
theorem sc_two_by : FnScope ["box", "weights", "at", "side", "rows", "one", "other", "row"] ["box", "weights", "at", "side"] (defScope s_two_by) := ⟨rfl, rfl, rfl, by decide +kernel, rfl, by decide +kernel, by decide +kernel⟩
theorem ok_two_by {P : Program} {w : World} {K : PySem.W.Frag} {mg : Str → Option Value} {base : Heap} (T : Txt K mg base) : FnOk P w K mg base (L2.CX P w) 7 (He.ga K "two_by") T.fd_two_by ["box", "weights", "at", "side"] (spL K 4 sp_two_by) := by
  apply ok_def (k := 6) T.F_two_by sc_two_by
  case hb =>
    intro cdv A outer s H E hr
    exact (dss_cons (ds_set (i := 4) sc_two_by.nd rfl (Or.inl rfl) (d_tup (da_cons (d_callTy call_list_of adq_list rfl T.n_list (by decide +kernel) (da_cons (d_slice sl_any adq_slAny (d_var 1) do_none (do_some (d_var 2))) da_nil)) (da_cons (d_callTy call_list_of adq_list rfl T.n_list (by decide +kernel) (da_cons (d_slice sl_any adq_slAny (d_var 1) (do_some (d_var 2)) do_none) da_nil)) da_nil))))
      (dss_cons (ds_asg (d_frz (d_callN (ok_split_by T) (hr.mono (by decide)) rfl T.g_split_by T.F_split_by.kp (b_split_by T) takesD (da_cons (d_var 0) (da_cons (d_lc rfl sc_two_by.nd (di_tup (d_var 4)) (blkOk_by (own := [("row", 7)]) (N := ["box", "weights", "at", "side", "rows", "one", "other", "row"]) (sc := defScope s_two_by) (by decide +kernel)) (gok_name (by decide)) (fun _ _ _ _ _ => (pg_name (i := 7) sc_two_by.nd rfl (Or.inl rfl))) (fun _ _ _ _ _ => dts_nil) (fun _ _ _ _ _ => (d_callB (cr_sumA rfl) adq_sumA rfl T.n_sum (by decide +kernel) (da_cons (d_var 7) da_nil)))) (da_cons (d_var 3) da_nil))))) (dg_lst (n := 2) rfl (dgs_cons (dg_name (i := 5) sc_two_by.nd rfl (Or.inl rfl)) (dgs_cons (dg_name (i := 6) sc_two_by.nd rfl (Or.inl rfl)) dgs_nil))))
      (dss_one (ds_ret (d_tup (da_cons (d_tup (da_cons (d_var 5) (da_cons (d_sub_ix (d_var 4) d_int) da_nil))) (da_cons (d_tup (da_cons (d_var 6) (da_cons (d_sub_ix (d_var 4) d_int) da_nil))) da_nil)))))))
  case hsp =>
    skip
    rintro ds cs Q Z ⟨b, wd, ws, k, dn, rfl, hwd, hw, k0, k1, hb, h⟩ _
    have hk := twoW_ok hw k0 k1
    have e1 : DL.cutD (ws.map D.int) none (some (k : Int)) = (ws.take k).map D.int := by
      rw [cutD_pre (by omega) (by rw [List.length_map]; omega), List.map_take]; rfl
    have e2 : DL.cutD (ws.map D.int) (some (k : Int)) none = (ws.drop k).map D.int := by
      rw [cutD_suf (by omega) (by rw [List.length_map]; omega), List.map_drop]; rfl
    rcases hwd with rfl | rfl
    all_goals
      show (_ : WS) (finD Q Z) [some _, some _, some _, some _, none, none, none, none] cs
      walk_at "GO"
      rw [e1]
      walk_at "GO"
      rw [e2]
      walk_at "GO"
      refine ⟨by show 2 ≤ 100000; decide, ?_⟩
      refine r_cmE (l := [ws.take k, ws.drop k]) (g := fun r => .lst (r.map D.int)) rfl (fun r => .int r.sum) (fun r N N' hm hN => ?_) ?_
      · walk_at "GO"
        exact hN
      walk_at "GO"
      refine ⟨b, twoW ws k, dn, .inl rfl, hk, hb, fun p hp => ?_⟩
      refine ⟨p, _, rfl, look_hd, ?_⟩
      rw [del_hd, split_two]
      walk_at "GO"
      exact h
local macro_rules | `(tactic| walk_at "cl") => `(tactic| (first | ((with_reducible apply r_two_by); (walk_at "wd"); (assumption); (walk_at "in"); (walk_at "in"); (walk_at "sz"))))
def sp_sliced_by : Nat → DSp
  | 0 => fun _ _ _ _ => False
  | n + 1 => fun ds cs P _ => ∃ (b : Bx) (wd : D) (ws : List Int) (t : Tr) (k : Nat), ds = [b.d, wd, t.d] ∧ WD wd ws ∧ WtOk ws ∧ t.n = ws.length ∧ ws.length ≤ n + 1 ∧ n ≤ 5 ∧ b.Pos ∧ b.Lv k ∧ k + ws.length ≤ 6 ∧ P (.lst ((slc t b ws).map Bx.d)) cs
theorem r_sliced_by {b : Bx} {wd : D} {ws : List Int} {t : Tr} {cs : Cs} {P : DP} {Z : XZ} (hwd : WD wd ws) (hw : WtOk ws) (ht : t.n = ws.length) (hl : ws.length ≤ 6) (hp : b.Pos) (hs : b.Sz 202) (h : P (.lst ((slc t b ws).map Bx.d)) cs) : sp_sliced_by 6 [b.d, wd, t.d] cs P Z := ⟨b, wd, ws, t, 0, rfl, hwd, hw, ht, hl, by decide, hp, hs.lv, by omega, h⟩
theorem sc_sliced_by : FnScope ["box", "weights", "tree", "side", "first", "second", "one", "row", "other", "rest"] ["box", "weights", "tree"] (defScope s_sliced_by) := ⟨rfl, rfl, rfl, by decide +kernel, rfl, by decide +kernel, by decide +kernel⟩
theorem ok_sliced_by {P : Program} {w : World} {K : PySem.W.Frag} {mg : Str → Option Value} {base : Heap} (T : Txt K mg base) (n : Nat) : FnOk P w K mg base (L2.CX P w) (n + 15) (He.ga K "sliced_by") T.fd_sliced_by ["box", "weights", "tree"] (spL K 3 (sp_sliced_by n)) := by
  induction n with
  | zero => exact vacF
  | succ n G =>
  rw [show n + 1 + 15 = (n + 15) + 1 from by omega]
  apply ok_def (k := n + 15) T.F_sliced_by sc_sliced_by
  case hb =>
    intro cdv A outer s H E hr
    exact (dss_cons (ds_if (dt_eq hr.units (d_var 2) (d_tup da_nil)) (dss_one (ds_ret (d_lst (da_cons (d_var 0) da_nil)))) dss_nil)
      (dss_cons (ds_asg (d_var 2) (dg_tup (n := 3) rfl (dgs_cons (dg_name (i := 3) sc_sliced_by.nd rfl (Or.inl rfl)) (dgs_cons (dg_name (i := 4) sc_sliced_by.nd rfl (Or.inl rfl)) (dgs_cons (dg_name (i := 5) sc_sliced_by.nd rfl (Or.inl rfl)) dgs_nil)))))
      (dss_cons (ds_asg (d_callN (ok_two_by T) (hr.mono (by omega)) rfl T.g_two_by T.F_two_by.kp (b_two_by T) takesD (da_cons (d_var 0) (da_cons (d_var 1) (da_cons (d_callN (ok_things_in T 13) (hr.mono (by omega)) rfl T.g_things_in T.F_things_in.kp (b_things_in T) takesD (da_cons (d_var 4) da_nil)) (da_cons (d_var 3) da_nil))))) (dg_tup (n := 2) rfl (dgs_cons (dg_tup (n := 2) rfl (dgs_cons (dg_name (i := 6) sc_sliced_by.nd rfl (Or.inl rfl)) (dgs_cons (dg_name (i := 7) sc_sliced_by.nd rfl (Or.inl rfl)) dgs_nil))) (dgs_cons (dg_tup (n := 2) rfl (dgs_cons (dg_name (i := 8) sc_sliced_by.nd rfl (Or.inl rfl)) (dgs_cons (dg_name (i := 9) sc_sliced_by.nd rfl (Or.inl rfl)) dgs_nil))) dgs_nil))))
      (dss_one (ds_ret (d_catL (d_callN G hr rfl T.g_sliced_by T.F_sliced_by.kp (b_sliced_by T) takesD (da_cons (d_var 6) (da_cons (d_var 7) (da_cons (d_var 4) da_nil)))) (d_callN G hr rfl T.g_sliced_by T.F_sliced_by.kp (b_sliced_by T) takesD (da_cons (d_var 8) (da_cons (d_var 9) (da_cons (d_var 5) da_nil))))))))))
  case hsp =>
    skip
    rintro ds cs Q Z ⟨b, wd, ws, t, k, rfl, hwd, hw, ht, hl, hn, hp, hv, hk, h⟩ _
    have l0 := hw.l0
    have l1 := hw.l1
    have bsz := hv.sz (show k ≤ 5 by omega)
    show (_ : WS) (finD Q Z) [some _, some _, some _, none, none, none, none, none, none, none] cs
    cases t with
    | lf =>
      walk_at "GO"
      refine r_eqNilT rfl (fun _ => ?_) (fun e => absurd rfl e)
      walk_at "GO"
      exact h
    | nd dn x y =>
      have hx := x.n_pos
      have hy := y.n_pos
      have ht' : x.n + y.n = ws.length := ht
      obtain ⟨m, rfl⟩ : ∃ m, n = m + 1 := ⟨n - 1, by omega⟩
      have pt := (Tr.nd dn x y).plD 20 (by show x.n + y.n ≤ 20; omega)
      have k1 : x.n < ws.length := by omega
      have wt := hw.take hx k1
      have wdp := hw.drop k1
      have lt_ : (ws.take x.n).length = x.n := by rw [List.length_take]; omega
      have ld_ : (ws.drop x.n).length = ws.length - x.n := by rw [List.length_drop]
      have l6 : (slc (.nd dn x y) b ws).length ≤ 6 := by rw [slc_len]; omega
      have e0 : (Tr.nd dn x y).d = .tup [sideD dn, x.d, y.d] := rfl
      rw [e0] at pt ⊢
      walk_at "GO"
      refine r_eqNilT pt (fun e => by cases e) (fun _ => ?_)
      walk_at "GO"
      unfold twoD
      walk_at "GO"
      refine ⟨fstB b ws x.n dn, _, ws.take x.n, x, k + 1, rfl, .inl rfl, wt, by omega, by omega, by omega, fst_pos hp hw hx k1 dn, fst_lv hv (by omega) hw hx k1 dn, by omega, ?_⟩
      walk_at "GO"
      refine ⟨sndB b ws x.n dn, _, ws.drop x.n, y, k + 1, rfl, .inl rfl, wdp, by omega, by omega, by omega, snd_pos hp hw hx k1 dn, snd_lv hv (by omega) hw hx k1 dn, by omega, ?_⟩
      refine r_catLL (by rw [List.length_map, List.length_map, slc_len, slc_len]; omega) ?_
      rw [← List.map_append]
      exact h
local macro_rules | `(tactic| walk_at "cl") => `(tactic| (first | ((with_reducible apply r_sliced_by); (walk_at "wd"); (assumption); (assumption); (walk_at "in"); (walk_at "pb"); (walk_at "sz"))))
def sp_slices_worst : DSp := fun ds cs P Z => (∃ (b : Bx) (wd : D) (ws : List Int) (t : Tr), ds = [b.d, wd, t.d] ∧ WD wd ws ∧ WtOk ws ∧ t.n = ws.length ∧ ws.length ≤ 6 ∧ b.Pos ∧ b.Sz 202 ∧ P (dR (tw t b ws)) cs) ∨ (∃ (b w t : D), ds = [b, w, t] ∧ (knD b = true ∧ knD w = true ∧ plD 12 t = true) ∧ andW (whyFew b w 6) (whyTree t (lenI w)) ≠ "" ∧ Z (exn (andW (whyFew b w 6) (whyTree t (lenI w)))) cs)
theorem r_slices_worstX {b w t : D} {cs : Cs} {P : DP} {Z : XZ} (hk : knD b = true ∧ knD w = true ∧ plD 12 t = true) (h1 : andW (whyFew b w 6) (whyTree t (lenI w)) ≠ "") (h : Z (exn (andW (whyFew b w 6) (whyTree t (lenI w)))) cs) : sp_slices_worst [b, w, t] cs P Z := .inr ⟨b, w, t, rfl, hk, h1, h⟩
theorem r_slices_worst {b : Bx} {wd : D} {ws : List Int} {t : Tr} {cs : Cs} {P : DP} {Z : XZ} (hwd : WD wd ws) (hw : WtOk ws) (ht : t.n = ws.length) (hl : ws.length ≤ 6) (hp : b.Pos) (hs : b.Sz 202) (h : P (dR (tw t b ws)) cs) : sp_slices_worst [b.d, wd, t.d] cs P Z := .inl ⟨b, wd, ws, t, rfl, hwd, hw, ht, hl, hp, hs, h⟩
theorem sc_slices_worst : FnScope ["box", "weights", "tree", "one"] ["box", "weights", "tree"] (defScope s_slices_worst) := ⟨rfl, rfl, rfl, by decide +kernel, rfl, by decide +kernel, by decide +kernel⟩
theorem ok_slices_worst {P : Program} {w : World} {K : PySem.W.Frag} {mg : Str → Option Value} {base : Heap} (T : Txt K mg base) : FnOk P w K mg base (L2.CX P w) 22 (He.ga K "slices_worst") T.fd_slices_worst ["box", "weights", "tree"] (spL K 3 sp_slices_worst) := by
  apply ok_def (k := 21) T.F_slices_worst sc_slices_worst
  case hb =>
    intro cdv A outer s H E hr
    exact (dss_cons (ds_expr (d_callN (ok_need_few T) (hr.mono (by decide)) rfl T.g_need_few T.F_need_few.kp (b_need_few T) takesD (da_cons (d_var 0) (da_cons (d_var 1) (da_cons (d_gint rfl T.c_MOST_SLICED) da_nil)))))
      (dss_cons (ds_expr (d_callN (ok_need_tree T) (hr.mono (by decide)) rfl T.g_need_tree T.F_need_tree.kp (b_need_tree T) takesD (da_cons (d_var 2) (da_cons (d_var 1) da_nil))))
      (dss_one (ds_ret (d_callN (ok_greatest T) (hr.mono (by decide)) rfl T.g_greatest T.F_greatest.kp (b_greatest T) takesD (da_cons (d_lc rfl sc_slices_worst.nd (di_list (d_callN (ok_sliced_by T 6) (hr.mono (by decide)) rfl T.g_sliced_by T.F_sliced_by.kp (b_sliced_by T) takesD (da_cons (d_var 0) (da_cons (d_var 1) (da_cons (d_var 2) da_nil))))) (blkOk_by (own := [("one", 3)]) (N := ["box", "weights", "tree", "one"]) (sc := defScope s_slices_worst) (by decide +kernel)) (gok_name (by decide)) (fun _ _ _ _ _ => (pg_name (i := 3) sc_slices_worst.nd rfl (Or.inl rfl))) (fun _ _ _ _ _ => dts_nil) (fun _ _ _ _ _ => (d_callN (ok_shape_by T) (hr.mono (by decide)) rfl T.g_shape_by T.F_shape_by.kp (b_shape_by T) takes0 (da_cons (d_sub_ix (d_var 3) d_int) (da_cons (d_sub_ix (d_var 3) d_int) da_nil))))) da_nil))))))
  case hsp =>
    skip
    rintro ds cs Q Z (⟨b, wd, ws, t, rfl, hwd, hw, ht, hl, hp, hs, h⟩ | ⟨b, w, t, rfl, ⟨kb, kw, k0⟩, hne, hz⟩) _
    · have hok := slc_ok t b ws 0 ht hw hp hs.lv (by omega)
      have hne := slc_ne t b ws
      have hsz : ∀ r ∈ (slc t b ws).map fun c => shapeR c.w c.h, DL.Sz 4000 r := fun r hr => by
        obtain ⟨c, hc, rfl⟩ := List.mem_map.mp hr
        obtain ⟨pc, j, hj, lc⟩ := hok c hc
        exact lc.shp hj pc
      show (_ : WS) (finD Q Z) [some _, some _, some _, none] cs
      walk_at "GO"
      refine ⟨by rw [List.length_map, slc_len]; omega, ?_⟩
      refine r_cmE (l := slc t b ws) (g := Bx.d) rfl (fun c => dR (shapeR c.w c.h)) (fun c N N' hm hN => ?_) ?_
      · obtain ⟨pc, j, hj, lc⟩ := hok c hm
        have := lc.sz hj
        walk_at "GO"
        exact hN
      rw [show ((slc t b ws).map fun c => dR (shapeR c.w c.h)) = ((slc t b ws).map fun c => shapeR c.w c.h).map dR by rw [List.map_map]; rfl]
      walk_at "GO"
      rw [tw_eq]
      exact h
    · show (_ : WS) (finD Q Z) [some _, some _, some _, none] cs
      walk_at "GO"
      refine r_need_fewX kb kw ⟨fun e => ?_, fun e => ?_⟩
      case refine_2 =>
        rw [andW_l e] at hz
        exact hz
      obtain ⟨_, ⟨ws, hwd, hw⟩, _⟩ := whyFew_ok e
      have hl := lenI_wd hwd
      rw [andW_e e] at hne hz
      walk_at "GO"
      exact r_need_treeX k0 hwd hw ⟨fun e2 => absurd e2 (by rw [hl] at hne; exact hne), fun _ => by rw [hl] at hz; exact hz⟩
local macro_rules | `(tactic| walk_at "cl") => `(tactic| (first | ((with_reducible apply r_slices_worst); (walk_at "wd"); (assumption); (assumption); (walk_at "in"); (walk_at "pb"); (walk_at "sz"))))
def sp_sliced : DSp := fun ds cs P Z => (∃ (b : Bx) (wd : D) (ws : List Int) (t : Tr), ds = [b.d, wd, t.d] ∧ WD wd ws ∧ WtOk ws ∧ t.n = ws.length ∧ ws.length ≤ 6 ∧ b.Pos ∧ b.Sz 202 ∧ P (.lst ((slc t b ws).map Bx.d)) cs) ∨ (∃ (b w t : D), ds = [b, w, t] ∧ (knD b = true ∧ knD w = true ∧ plD 12 t = true) ∧ andW (whyFew b w 6) (whyTree t (lenI w)) ≠ "" ∧ Z (exn (andW (whyFew b w 6) (whyTree t (lenI w)))) cs)
theorem r_slicedX {b w t : D} {cs : Cs} {P : DP} {Z : XZ} (hk : knD b = true ∧ knD w = true ∧ plD 12 t = true) (h1 : andW (whyFew b w 6) (whyTree t (lenI w)) ≠ "") (h : Z (exn (andW (whyFew b w 6) (whyTree t (lenI w)))) cs) : sp_sliced [b, w, t] cs P Z := .inr ⟨b, w, t, rfl, hk, h1, h⟩
theorem r_sliced {b : Bx} {wd : D} {ws : List Int} {t : Tr} {cs : Cs} {P : DP} {Z : XZ} (hwd : WD wd ws) (hw : WtOk ws) (ht : t.n = ws.length) (hl : ws.length ≤ 6) (hp : b.Pos) (hs : b.Sz 202) (h : P (.lst ((slc t b ws).map Bx.d)) cs) : sp_sliced [b.d, wd, t.d] cs P Z := .inl ⟨b, wd, ws, t, rfl, hwd, hw, ht, hl, hp, hs, h⟩
theorem sc_sliced : FnScope ["box", "weights", "tree"] ["box", "weights", "tree"] (defScope s_sliced) := ⟨rfl, rfl, rfl, by decide +kernel, rfl, by decide +kernel, by decide +kernel⟩
theorem ok_sliced {P : Program} {w : World} {K : PySem.W.Frag} {mg : Str → Option Value} {base : Heap} (T : Txt K mg base) : FnOk P w K mg base (L2.CX P w) 22 (He.ga K "sliced") T.fd_sliced ["box", "weights", "tree"] (spL K 3 sp_sliced) := by
  apply ok_def (k := 21) T.F_sliced sc_sliced
  case hb =>
    intro cdv A outer s H E hr
    exact (dss_cons (ds_expr (d_callN (ok_need_few T) (hr.mono (by decide)) rfl T.g_need_few T.F_need_few.kp (b_need_few T) takesD (da_cons (d_var 0) (da_cons (d_var 1) (da_cons (d_gint rfl T.c_MOST_SLICED) da_nil)))))
      (dss_cons (ds_expr (d_callN (ok_need_tree T) (hr.mono (by decide)) rfl T.g_need_tree T.F_need_tree.kp (b_need_tree T) takesD (da_cons (d_var 2) (da_cons (d_var 1) da_nil))))
      (dss_one (ds_ret (d_callN (ok_sliced_by T 6) (hr.mono (by decide)) rfl T.g_sliced_by T.F_sliced_by.kp (b_sliced_by T) takesD (da_cons (d_var 0) (da_cons (d_var 1) (da_cons (d_var 2) da_nil))))))))
  case hsp =>
    skip
    rintro ds cs Q Z (⟨b, wd, ws, t, rfl, hwd, hw, ht, hl, hp, hs, h⟩ | ⟨b, w, t, rfl, ⟨kb, kw, k0⟩, hne, hz⟩) _
    · show (_ : WS) (finD Q Z) [some _, some _, some _] cs
      walk_at "GO"
      exact h
    · show (_ : WS) (finD Q Z) [some _, some _, some _] cs
      walk_at "GO"
      refine r_need_fewX kb kw ⟨fun e => ?_, fun e => ?_⟩
      case refine_2 =>
        rw [andW_l e] at hz
        exact hz
      obtain ⟨_, ⟨ws, hwd, hw⟩, _⟩ := whyFew_ok e
      have hl := lenI_wd hwd
      rw [andW_e e] at hne hz
      walk_at "GO"
      exact r_need_treeX k0 hwd hw ⟨fun e2 => absurd e2 (by rw [hl] at hne; exact hne), fun _ => by rw [hl] at hz; exact hz⟩
local macro_rules | `(tactic| walk_at "cl") => `(tactic| (first | ((with_reducible apply r_sliced); (walk_at "wd"); (assumption); (assumption); (walk_at "in"); (walk_at "pb"); (walk_at "sz"))))
def FndD (b : Bx) (ws : List Int) (S : Bool × Nat → Prop) (fd : D) : Prop := (fd = .non ∧ ∀ p, ¬ S p) ∨ ∃ t : Tr, t.n = ws.length ∧ fd = .tup [t.d, dR (tw t b ws)] ∧ FndR b ws S (tw t b ws)
theorem FndD.congr {b : Bx} {ws : List Int} {S S' : Bool × Nat → Prop} {fd : D} (e : ∀ p, S p ↔ S' p) (h : FndD b ws S fd) : FndD b ws S' fd := by
  rw [show S' = S from funext fun p => propext (e p).symm]
  exact h
def sp_best_tree : Nat → DSp
  | 0 => fun _ _ _ _ => False
  | n + 1 => fun ds cs P _ => ∃ (b : Bx) (wd : D) (ws : List Int) (k : Nat), ds = [b.d, wd] ∧ WD wd ws ∧ WtOk ws ∧ ws.length ≤ n + 1 ∧ n ≤ 5 ∧ b.Pos ∧ b.Lv k ∧ k + ws.length ≤ 6 ∧ ∀ t : Tr, t.n = ws.length → LeastT b ws (tw t b ws) → P (.tup [t.d, dR (tw t b ws)]) cs
theorem r_best_tree {b : Bx} {wd : D} {ws : List Int} {cs : Cs} {P : DP} {Z : XZ} (hwd : WD wd ws) (hw : WtOk ws) (hl : ws.length ≤ 6) (hp : b.Pos) (hs : b.Sz 202) (h : ∀ t : Tr, t.n = ws.length → LeastT b ws (tw t b ws) → P (.tup [t.d, dR (tw t b ws)]) cs) : sp_best_tree 6 [b.d, wd] cs P Z := ⟨b, wd, ws, 0, rfl, hwd, hw, hl, by decide, hp, hs.lv, by omega, h⟩
theorem sc_best_tree : FnScope ["box", "weights", "found", "side", "at", "halves", "first", "here", "second", "there", "one", "row", "worst_now"] ["box", "weights"] (defScope s_best_tree) := ⟨rfl, rfl, rfl, by decide +kernel, rfl, by decide +kernel, by decide +kernel⟩
theorem ok_best_tree {P : Program} {w : World} {K : PySem.W.Frag} {mg : Str → Option Value} {base : Heap} (T : Txt K mg base) (n : Nat) : FnOk P w K mg base (L2.CX P w) (n + 8) (He.ga K "best_tree") T.fd_best_tree ["box", "weights"] (spL K 2 (sp_best_tree n)) := by
  induction n with
  | zero => exact vacF
  | succ n G =>
  rw [show n + 1 + 8 = (n + 8) + 1 from by omega]
  apply ok_def (k := n + 8) T.F_best_tree sc_best_tree
  case hb =>
    intro cdv A outer s H E hr
    exact (dss_cons (ds_if (dt_eq hr.units (d_callB call_len_seq adq_len rfl T.n_len (by decide +kernel) (da_cons (d_var 1) da_nil)) d_int) (dss_one (ds_ret (d_tup (da_cons (d_tup da_nil) (da_cons (d_callN (ok_shape_by T) (hr.mono (by omega)) rfl T.g_shape_by T.F_shape_by.kp (b_shape_by T) takesD (da_cons (d_sub_ix (d_var 0) d_int) (da_cons (d_sub_ix (d_var 0) d_int) da_nil))) da_nil))))) dss_nil)
      (dss_cons (ds_set (i := 2) sc_best_tree.nd rfl (Or.inl rfl) d_non)
      (dss_cons (ds_for passD rfl (di_tup (show DE _ _ _ (wC (.tup [.str "down", .str "across"])) from d_gtup (vs := [.str "down", .str "across"]) rfl T.g_SIDES T.k_SIDES)) (dg_name (i := 3) sc_best_tree.nd rfl (Or.inl rfl)) (dss_one (ds_for passD rfl (di_range2 rfl T.n_range (da_cons d_int (da_cons (d_callB call_len_seq adq_len rfl T.n_len (by decide +kernel) (da_cons (d_var 1) da_nil)) da_nil))) (dg_name (i := 4) sc_best_tree.nd rfl (Or.inl rfl)) (dss_cons (ds_set (i := 5) sc_best_tree.nd rfl (Or.inl rfl) (d_callN (ok_two_by T) (hr.mono (by omega)) rfl T.g_two_by T.F_two_by.kp (b_two_by T) takesD (da_cons (d_var 0) (da_cons (d_var 1) (da_cons (d_var 4) (da_cons (d_var 3) da_nil))))))
      (dss_cons (ds_asg (d_lc rfl sc_best_tree.nd (di_tup (d_var 5)) (blkOk_by (own := [("one", 10), ("row", 11)]) (N := ["box", "weights", "found", "side", "at", "halves", "first", "here", "second", "there", "one", "row", "worst_now"]) (sc := defScope s_best_tree) (by decide +kernel)) (gok_two (by decide) (by decide)) (fun _ _ _ _ _ => (pg_tup (n := 2) rfl (pgs_cons (pg_name (i := 10) sc_best_tree.nd rfl (Or.inl rfl)) (pgs_cons (pg_name (i := 11) sc_best_tree.nd rfl (Or.inl rfl)) pgs_nil)))) (fun _ _ _ _ _ => dts_nil) (fun _ _ _ _ _ => (d_callN G hr rfl T.g_best_tree T.F_best_tree.kp (b_best_tree T) takes0 (da_cons (d_var 10) (da_cons (d_var 11) da_nil))))) (dg_lst (n := 2) rfl (dgs_cons (dg_tup (n := 2) rfl (dgs_cons (dg_name (i := 6) sc_best_tree.nd rfl (Or.inl rfl)) (dgs_cons (dg_name (i := 7) sc_best_tree.nd rfl (Or.inl rfl)) dgs_nil))) (dgs_cons (dg_tup (n := 2) rfl (dgs_cons (dg_name (i := 8) sc_best_tree.nd rfl (Or.inl rfl)) (dgs_cons (dg_name (i := 9) sc_best_tree.nd rfl (Or.inl rfl)) dgs_nil))) dgs_nil))))
      (dss_cons (ds_set (i := 12) sc_best_tree.nd rfl (Or.inl rfl) (d_if (dt_val (d_callN (ok_less T) (hr.mono (by omega)) rfl T.g_less T.F_less.kp (b_less T) takesD (da_cons (d_var 7) (da_cons (d_var 9) da_nil)))) (d_var 9) (d_var 7)))
      (dss_one (ds_if (dt_w (dw_or (dt_is (d_var 2) d_non) (dw_or1 (dt_val (d_callN (ok_less T) (hr.mono (by omega)) rfl T.g_less T.F_less.kp (b_less T) takesD (da_cons (d_var 12) (da_cons (d_sub_ix (d_var 2) d_int) da_nil))))))) (dss_one (ds_set (i := 2) sc_best_tree.nd rfl (Or.inl rfl) (d_tup (da_cons (d_tup (da_cons (d_var 3) (da_cons (d_var 6) (da_cons (d_var 8) da_nil)))) (da_cons (d_var 12) da_nil))))) dss_nil))))))))
      (dss_one (ds_ret (d_var 2))))))
  case hsp =>
    skip
    rintro ds cs Q Z ⟨b, wd, ws, k, rfl, hwd, hw, hl, hn, hp, hv, hk, h⟩ _
    have l0 := hw.l0
    have l1 := hw.l1
    have bsz := hv.sz (show k ≤ 5 by omega)
    show (_ : WS) (finD Q Z) [some _, some _, none, none, none, none, none, none, none, none, none, none, none] cs
    walk_at "GO"
    by_cases e1 : ws.length = 1
    · refine r_pos (by omega) ?_
      walk_at "GO"
      exact h .lf e1.symm (least_one e1)
    refine r_neg_ (by omega) ?_
    have l2 : 1 < ws.length := by omega
    obtain ⟨m, rfl⟩ : ∃ m, n = m + 1 := ⟨n - 1, by omega⟩
    walk_at "GO"
    refine r_loopE (fun i ρ cs' => ∃ (c3 c4 c5 c6 c7 c8 c9 c10 c11 c12 : Option D) (fd : D), ρ = [some (b.d), some (wd), some (fd), c3, c4, c5, c6, c7, c8, c9, c10, c11, c12] ∧ FndD b ws (spS ws.length i 0) fd ∧ cs = cs') (l := [true, false]) (g := sideD) rfl ⟨_, _, _, _, _, _, _, _, _, _, _, rfl, ⟨.inl ⟨rfl, fun p => spS_zero⟩, rfl⟩⟩ ?_ ?_
    · rintro i0 dn ρ cs' N hd ⟨c3, c4, c5, c6, c7, c8, c9, c10, c11, c12, fd, rfl, ⟨hf, rfl⟩⟩ hN
      have hi : sdN dn = i0 := by
        match i0, hd with
        | 0, hd => injection hd with e; rw [← e]; rfl
        | 1, hd => injection hd with e; rw [← e]; rfl
      walk_at "GO"
      refine ⟨by omega, ?_⟩
      refine r_loopE (fun i ρ cs' => ∃ (c4 c5 c6 c7 c8 c9 c10 c11 c12 : Option D) (fd : D), ρ = [some (b.d), some (wd), some (fd), some (sideD dn), c4, c5, c6, c7, c8, c9, c10, c11, c12] ∧ FndD b ws (spS ws.length i0 i) fd ∧ cs = cs') (rng1' (a := 1) (n := ws.length - 1) (by omega) rfl) ⟨_, _, _, _, _, _, _, _, _, _, rfl, ⟨hf, rfl⟩⟩ ?_ ?_
      · rintro j j' ρ cs' N2 hd2 ⟨c4, c5, c6, c7, c8, c9, c10, c11, c12, fd, rfl, ⟨hf, rfl⟩⟩ hN2
        obtain ⟨hj, rfl⟩ := range_get hd2
        have k0 : 1 ≤ 1 + j := by omega
        have k1 : 1 + j < ws.length := by omega
        have kj : k + 1 + (1 + j) ≤ 6 ∧ k + 1 + (ws.length - (1 + j)) ≤ 6 := by omega
        walk_at "GO"
        refine ⟨by show 2 ≤ 100000; decide, r_ccons ?_⟩
        walk_at "GO"
        have wt := hw.take k0 k1
        have wdp := hw.drop k1
        have pf := fst_pos hp hw k0 k1 dn
        have ps := snd_pos hp hw k0 k1 dn
        have vf := fst_lv hv (by omega) hw k0 k1 dn
        have vs := snd_lv hv (by omega) hw k0 k1 dn
        have lt_ : (ws.take (1 + j)).length = 1 + j := by rw [List.length_take]; omega
        have ld_ : (ws.drop (1 + j)).length = ws.length - (1 + j) := by rw [List.length_drop]
        refine ⟨fstB b ws (1 + j) dn, _, ws.take (1 + j), k + 1, rfl, .inl rfl, wt, by omega, by omega, pf, vf, by omega, fun x hx lx => r_ccons ?_⟩
        walk_at "GO"
        refine ⟨sndB b ws (1 + j) dn, _, ws.drop (1 + j), k + 1, rfl, .inl rfl, wdp, by omega, by omega, ps, vs, by omega, fun y hy ly => r_cnil ?_⟩
        have z1 := tw_sz hx wt pf vf (by omega)
        have z2 := tw_sz hy wdp ps vs (by omega)
        have tn : (Tr.nd dn x y).n = ws.length := by show x.n + y.n = _; omega
        have te := tw_nd dn x y b ws (k := 1 + j) (by omega)
        have z3 := tw_sz tn hw hp hv hk
        have la : LeastAt b ws (dn, 1 + j) (tw (.nd dn x y) b ws) := ⟨_, _, lx, ly, te⟩
        generalize hu : tw x (fstB b ws (1 + j) dn) (ws.take (1 + j)) = u at *
        generalize hv2 : tw y (sndB b ws (1 + j) dn) (ws.drop (1 + j)) = v at *
        refine r_gL rfl ?_
        show gCn _ _ [D.tup [x.d, dR u], D.tup [y.d, dR v]] _ _
        walk_at "G1"
        generalize hT : tw (.nd dn x y) b ws = tt at *
        refine r_key (fun ρ cs' => ∃ (c5 c10 c11 : Option D), ρ = [some (b.d), some (wd), some (fd), some (sideD dn), some (.int ((1 + j : Nat) : Int)), c5, some (x.d), some (dR u), some (y.d), some (dR v), c10, c11, some (dR tt)] ∧ cs' = cs) ?_ (fun nx key => ?_)
        case refine_2 =>
          walk_at "GO"
          refine ⟨fun hb => ?_, fun hb => ?_⟩
          · walk_at "GO"
            exact key _ _ (by rw [te, mxR_pos (decT hb)]; exact ⟨_, _, _, rfl, rfl⟩)
          · walk_at "GO"
            exact key _ _ (by rw [te, mxR_neg (decF hb)]; exact ⟨_, _, _, rfl, rfl⟩)
        rintro ρ cs' ⟨c5, c10, c11, rfl, rfl⟩
        have nw : ∀ p, spS ws.length i0 (j + 1) p ↔ spS ws.length i0 j p ∨ p = (dn, 1 + j) := fun p => by
          rw [Nat.add_comm 1 j]; exact spS_step dn hi
        rcases hf with ⟨rfl, q⟩ | ⟨t, ht, rfl, hf⟩
        · walk_at "GO"
          refine r_isT rfl ?_
          walk_at "GO"
          refine hN2 _ _ ⟨_, _, _, _, _, _, _, _, _, _, rfl, ⟨.inr ⟨.nd dn x y, tn, by rw [hT]; rfl, ?_⟩, rfl⟩⟩
          rw [hT]
          exact fnd_congr (fun p => (nw p).symm) (fnd_first q la)
        · have z4 := tw_sz ht hw hp hv hk
          walk_at "GO"
          refine r_isF rfl ?_
          walk_at "GO"
          refine ⟨fun hb => ?_, fun hb => ?_⟩
          · walk_at "GO"
            refine hN2 _ _ ⟨_, _, _, _, _, _, _, _, _, _, rfl, ⟨.inr ⟨.nd dn x y, tn, by rw [hT]; rfl, ?_⟩, rfl⟩⟩
            rw [hT]
            exact fnd_congr (fun p => (nw p).symm) (fnd_less hf la (decT hb))
          · walk_at "GO"
            exact hN2 _ _ ⟨_, _, _, _, _, _, _, _, _, _, rfl, ⟨.inr ⟨t, ht, rfl, fnd_congr (fun p => (nw p).symm) (fnd_stay hf la (decF hb))⟩, rfl⟩⟩
      · rintro ρ cs' ⟨c4, c5, c6, c7, c8, c9, c10, c11, c12, fd, rfl, ⟨hf, rfl⟩⟩
        rw [List.length_range] at hf
        exact hN _ _ ⟨_, _, _, _, _, _, _, _, _, _, _, rfl, ⟨hf.congr fun p => spS_next, rfl⟩⟩
    · rintro ρ cs' ⟨c3, c4, c5, c6, c7, c8, c9, c10, c11, c12, fd, rfl, ⟨hf, rfl⟩⟩
      walk_at "GO"
      rcases hf with ⟨rfl, q⟩ | ⟨t, ht, rfl, hf⟩
      · exact absurd (spS_end.mpr ⟨Nat.le_refl 1, l2⟩) (q (true, 1))
      exact h t ht (fnd_end l2 hf)
local macro_rules | `(tactic| walk_at "cl") => `(tactic| (first | ((with_reducible apply r_best_tree); (walk_at "wd"); (assumption); (walk_at "in"); (walk_at "pb"); (walk_at "sz"))))
def sp_best_slices : DSp := fun ds cs P Z => (∃ (b : Bx) (wd : D) (ws : List Int), ds = [b.d, wd] ∧ WD wd ws ∧ WtOk ws ∧ ws.length ≤ 6 ∧ b.Pos ∧ b.Sz 202 ∧ ∀ t : Tr, t.n = ws.length → LeastT b ws (tw t b ws) → P t.d cs) ∨ (∃ (b w : D), ds = [b, w] ∧ (knD b = true ∧ knD w = true) ∧ whyFew b w 6 ≠ "" ∧ Z (exn (whyFew b w 6)) cs)
theorem r_best_slicesX {b w : D} {cs : Cs} {P : DP} {Z : XZ} (hk : knD b = true ∧ knD w = true) (h1 : whyFew b w 6 ≠ "") (h : Z (exn (whyFew b w 6)) cs) : sp_best_slices [b, w] cs P Z := .inr ⟨b, w, rfl, hk, h1, h⟩
theorem r_best_slices {b : Bx} {wd : D} {ws : List Int} {cs : Cs} {P : DP} {Z : XZ} (hwd : WD wd ws) (hw : WtOk ws) (hl : ws.length ≤ 6) (hp : b.Pos) (hs : b.Sz 202) (h : ∀ t : Tr, t.n = ws.length → LeastT b ws (tw t b ws) → P t.d cs) : sp_best_slices [b.d, wd] cs P Z := .inl ⟨b, wd, ws, rfl, hwd, hw, hl, hp, hs, h⟩
theorem sc_best_slices : FnScope ["box", "weights"] ["box", "weights"] (defScope s_best_slices) := ⟨rfl, rfl, rfl, by decide +kernel, rfl, by decide +kernel, by decide +kernel⟩
theorem ok_best_slices {P : Program} {w : World} {K : PySem.W.Frag} {mg : Str → Option Value} {base : Heap} (T : Txt K mg base) : FnOk P w K mg base (L2.CX P w) 15 (He.ga K "best_slices") T.fd_best_slices ["box", "weights"] (spL K 2 sp_best_slices) := by
  apply ok_def (k := 14) T.F_best_slices sc_best_slices
  case hb =>
    intro cdv A outer s H E hr
    exact (dss_cons (ds_expr (d_callN (ok_need_few T) (hr.mono (by decide)) rfl T.g_need_few T.F_need_few.kp (b_need_few T) takesD (da_cons (d_var 0) (da_cons (d_var 1) (da_cons (d_gint rfl T.c_MOST_SLICED) da_nil)))))
      (dss_one (ds_ret (d_sub_ix (d_callN (ok_best_tree T 6) (hr.mono (by decide)) rfl T.g_best_tree T.F_best_tree.kp (b_best_tree T) takesD (da_cons (d_var 0) (da_cons (d_var 1) da_nil))) d_int))))
  case hsp =>
    skip
    rintro ds cs Q Z (⟨b, wd, ws, rfl, hwd, hw, hl, hp, hs, h⟩ | ⟨b, w, rfl, ⟨kb, kw⟩, hne, hz⟩) _
    · show (_ : WS) (finD Q Z) [some _, some _] cs
      walk_at "GO"
      intro t ht lt
      walk_at "GO"
      exact h t ht lt
    · show (_ : WS) (finD Q Z) [some _, some _] cs
      walk_at "GO"
      refine r_need_fewX kb kw ⟨fun e => ?_, fun e => ?_⟩
      · exact absurd e hne
      · exact hz
local macro_rules | `(tactic| walk_at "cl") => `(tactic| (first | ((with_reducible apply r_best_slices); (walk_at "wd"); (assumption); (walk_at "in"); (walk_at "pb"); (walk_at "sz"))))
def sp_need_bound : DSp := fun ds cs P Z => ∃ d : D, ds = [d] ∧ knD d = true ∧ Due (whyBound d) (P .non cs) (fun y => Z (exn y) cs)
theorem r_need_bound {r : Rat} {cs : Cs} {P : DP} {Z : XZ} (hr : 1 ≤ r) (h : P .non cs) : sp_need_bound [dR r] cs P Z := ⟨_, rfl, rfl, .of (badW_t (by rw [boundB_dR]; exact decide_eq_true hr)) h⟩
theorem r_need_boundX {d : D} {cs : Cs} {P : DP} {Z : XZ} (hk : knD d = true) (h : Due (whyBound d) (P .non cs) (fun y => Z (exn y) cs)) : sp_need_bound [d] cs P Z := ⟨d, rfl, hk, h⟩
theorem sc_need_bound : FnScope ["bound"] ["bound"] (defScope s_need_bound) := ⟨rfl, rfl, rfl, by decide +kernel, rfl, by decide +kernel, by decide +kernel⟩
theorem ok_need_bound {P : Program} {w : World} {K : PySem.W.Frag} {mg : Str → Option Value} {base : Heap} (T : Txt K mg base) : FnOk P w K mg base (L2.CX P w) 4 (He.ga K "need_bound") T.fd_need_bound ["bound"] (spL K 1 sp_need_bound) := by
  apply ok_def (k := 3) T.F_need_bound sc_need_bound
  case hb =>
    intro cdv A outer s H E hr
    exact (dss_one (ds_if (dt_w (dw_or (dt_not (dt_val (d_callN (ok_is_part T) (hr.mono (by decide)) rfl T.g_is_part T.F_is_part.kp (b_is_part T) takesD (da_cons (d_var 0) da_nil)))) (dw_or1 (dt_lt (d_sub_ix (d_var 0) d_int) (d_sub_ix (d_var 0) d_int))))) (dss_one (ds_raise0 rfl takesD T.x_BadBound.x T.x_BadBound.ini T.x_BadBound.ty (ok_i_BadBound T) (hr.mono (by decide)) (b_i_BadBound T) .nil (fun _ => .nil) rfl fld0 rfl T.g_BadBound)) dss_nil))
  case hsp =>
    skip
    rintro ds cs Q Z ⟨d, rfl, hk, h⟩ _
    show (_ : WS) (finD Q Z) [some _] cs
    walk_at "GO"
    refine ⟨_, rfl, hk, ?_⟩
    cases hb : partD d with
    | false =>
      walk_at "GO"
      unfold whyBound at h
      rw [boundB_no hb] at h
      exact h.no (by decide)
    | true =>
      obtain ⟨r, rfl⟩ := partD_inv hb
      unfold whyBound at h
      rw [boundB_dR] at h
      have e : (1 ≤ r) ↔ ¬ r.num < (r.den : Int) := by rw [Rat.le_iff]; simp
      walk_at "GO"
      refine ⟨fun hk => ?_, fun hk => ?_⟩
      · walk_at "GO"
        rw [decide_eq_false (fun z => e.mp z (decT hk))] at h
        exact h.no (by decide)
      · walk_at "GO"
        rw [decide_eq_true (e.mpr (decF hk))] at h
        exact h.ok rfl
local macro_rules | `(tactic| walk_at "cl") => `(tactic| (first | ((with_reducible apply r_need_bound); (walk_at "ge"))))
def PapR (r : Rat) (m : Nat) (b : Bx) (ws : List Int) (p : D) : Prop := (p = .non ∧ ∃ x : Tr, x.n = ws.length ∧ tw x b ws < r) ∨ ∃ xs, p = .tup xs ∧ St r m b ws (.tup xs)
def sp_paper_by : Nat → DSp
  | 0 => fun _ _ _ _ => False
  | n + 1 => fun ds cs P _ => ∃ (b : Bx) (wd : D) (ws : List Int) (r : Rat) (k : Nat), ds = [b.d, wd, dR r] ∧ WD wd ws ∧ WtOk ws ∧ DL.Sz 4000 r ∧ ws.length ≤ n + 1 ∧ n ≤ 4 ∧ b.Pos ∧ b.Lv k ∧ k + ws.length ≤ 6 ∧ (∀ t : Tr, t.n = ws.length → tw t b ws < r → P .non cs) ∧ ∀ xs, St r (n + 1) b ws (.tup xs) → P (.tup xs) cs
theorem r_paper_by {b : Bx} {wd : D} {ws : List Int} {r : Rat} {cs : Cs} {P : DP} {Z : XZ} (hwd : WD wd ws) (hw : WtOk ws) (hr : DL.Sz 4000 r) (hl : ws.length ≤ 5) (hp : b.Pos) (hs : b.Sz 202) (h0 : ∀ t : Tr, t.n = ws.length → tw t b ws < r → P .non cs) (h1 : ∀ xs, St r 5 b ws (.tup xs) → P (.tup xs) cs) : sp_paper_by 5 [b.d, wd, dR r] cs P Z := ⟨b, wd, ws, r, 0, rfl, hwd, hw, hr, hl, by decide, hp, hs.lv, by omega, h0, h1⟩
theorem sc_paper_by : FnScope ["box", "weights", "bound", "found", "side", "at", "papers", "one", "row", "good", "which"] ["box", "weights", "bound"] (defScope s_paper_by) := ⟨rfl, rfl, rfl, by decide +kernel, rfl, by decide +kernel, by decide +kernel⟩
theorem ok_paper_by {P : Program} {w : World} {K : PySem.W.Frag} {mg : Str → Option Value} {base : Heap} (T : Txt K mg base) (n : Nat) : FnOk P w K mg base (L2.CX P w) (n + 8) (He.ga K "paper_by") T.fd_paper_by ["box", "weights", "bound"] (spL K 3 (sp_paper_by n)) := by
  induction n with
  | zero => exact vacF
  | succ n G =>
  rw [show n + 1 + 8 = (n + 8) + 1 from by omega]
  apply ok_def (k := n + 8) T.F_paper_by sc_paper_by
  case hb =>
    intro cdv A outer s H E hr
    exact (dss_cons (ds_if (dt_eq hr.units (d_callB call_len_seq adq_len rfl T.n_len (by decide +kernel) (da_cons (d_var 1) da_nil)) d_int) (dss_one (ds_ret (d_if (dt_val (d_callN (ok_less T) (hr.mono (by omega)) rfl T.g_less T.F_less.kp (b_less T) takesD (da_cons (d_callN (ok_shape_by T) (hr.mono (by omega)) rfl T.g_shape_by T.F_shape_by.kp (b_shape_by T) takesD (da_cons (d_sub_ix (d_var 0) d_int) (da_cons (d_sub_ix (d_var 0) d_int) da_nil))) (da_cons (d_var 2) da_nil)))) d_non (d_tup da_nil)))) dss_nil)
      (dss_cons (ds_set (i := 3) sc_paper_by.nd rfl (Or.inl rfl) (d_lstM da_nil))
      (dss_cons (ds_for passD rfl (di_tup (show DE _ _ _ (wC (.tup [.str "down", .str "across"])) from d_gtup (vs := [.str "down", .str "across"]) rfl T.g_SIDES T.k_SIDES)) (dg_name (i := 4) sc_paper_by.nd rfl (Or.inl rfl)) (dss_one (ds_for passD rfl (di_range2 rfl T.n_range (da_cons d_int (da_cons (d_callB call_len_seq adq_len rfl T.n_len (by decide +kernel) (da_cons (d_var 1) da_nil)) da_nil))) (dg_name (i := 5) sc_paper_by.nd rfl (Or.inl rfl)) (dss_cons (ds_set (i := 6) sc_paper_by.nd rfl (Or.inr rfl) (d_lc rfl sc_paper_by.nd (di_tup (d_callN (ok_two_by T) (hr.mono (by omega)) rfl T.g_two_by T.F_two_by.kp (b_two_by T) takesD (da_cons (d_var 0) (da_cons (d_var 1) (da_cons (d_var 5) (da_cons (d_var 4) da_nil)))))) (blkOk_by (own := [("one", 7), ("row", 8)]) (N := ["box", "weights", "bound", "found", "side", "at", "papers", "one", "row", "good", "which"]) (sc := defScope s_paper_by) (by decide +kernel)) (gok_two (by decide) (by decide)) (fun _ _ _ _ _ => (pg_tup (n := 2) rfl (pgs_cons (pg_name (i := 7) sc_paper_by.nd rfl (Or.inl rfl)) (pgs_cons (pg_name (i := 8) sc_paper_by.nd rfl (Or.inl rfl)) pgs_nil)))) (fun _ _ _ _ _ => dts_nil) (fun _ _ _ _ _ => (d_callN G hr rfl T.g_paper_by T.F_paper_by.kp (b_paper_by T) takes0 (da_cons (d_var 7) (da_cons (d_var 8) (da_cons (d_var 2) da_nil)))))))
      (dss_cons (ds_setLc (i := 9) rfl sc_paper_by.nd rfl rfl (sw_true rfl rfl rfl (by decide +kernel)) (di_tup (d_tup (da_cons d_int (da_cons d_int da_nil)))) (blkOk_by (own := [("which", 10)]) (N := ["box", "weights", "bound", "found", "side", "at", "papers", "one", "row", "good", "which"]) (sc := defScope s_paper_by) (by decide +kernel)) (gok_name (by decide)) (fun _ _ _ _ _ => (pg_name (i := 10) sc_paper_by.nd rfl (Or.inl rfl))) (fun _ _ _ _ _ => (dts_one (dt_isnot (d_sub_ix (d_var 6) (d_var 10)) d_non))) (fun _ _ _ _ _ => (d_var 10)))
      (dss_cons (ds_if (dt_eq hr.units (d_var 9) (d_lst da_nil)) (dss_one (ds_ret (d_gone d_non))) dss_nil)
      (dss_one (ds_expr (d_append (d_var 3) (da_cons (d_tup (da_cons (d_sub_ix (d_var 9) d_int) (da_cons (d_sub_ix (d_var 6) (d_sub_ix (d_var 9) d_int)) da_nil))) da_nil))))))))))
      (dss_one (ds_ret (d_callTy call_tuple_of adq_tuple rfl T.n_tuple (by decide +kernel) (da_cons (d_frz (d_var 3)) da_nil)))))))
  case hsp =>
    skip
    rintro ds cs Q Z ⟨b, wd, ws, r, k, rfl, hwd, hw, hr, hl, hn, hp, hv, hk, h0, h1⟩ _
    have l0 := hw.l0
    have l1 := hw.l1
    have bsz := hv.sz (show k ≤ 5 by omega)
    show (_ : WS) (finD Q Z) [some _, some _, some _, none, none, none, none, none, none, none, none] cs
    walk_at "GO"
    by_cases e1 : ws.length = 1
    · refine r_pos (by omega) ?_
      have zs := hv.shp (by omega) hp
      walk_at "GO"
      refine ⟨fun hb => ?_, fun hb => ?_⟩
      · walk_at "GO"
        exact h0 .lf e1.symm (decT hb)
      · walk_at "GO"
        exact h1 [] ((st_one e1).mpr ⟨rfl, Rat.not_lt.mp (decF hb)⟩)
    refine r_neg_ (by omega) ?_
    have l2 : 1 < ws.length := by omega
    obtain ⟨m, rfl⟩ : ∃ m, n = m + 1 := ⟨n - 1, by omega⟩
    walk_at "GO"
    intro q hq
    walk_at "GO"
    refine r_loopE (fun i ρ cs' => ∃ (c4 c5 c6 c7 c8 c9 c10 : Option D) (xs : List D), ρ = [some (b.d), some (wd), some (dR r), some (.opq (.ref q)), c4, c5, c6, c7, c8, c9, c10] ∧ xs.length = i * (ws.length - 1) ∧ Up r (m + 1) b ws xs.length xs ∧ cs' = (q, .lst xs) :: cs) (l := [true, false]) (g := sideD) rfl ⟨_, _, _, _, _, _, _, [], rfl, ⟨(Nat.zero_mul _).symm, up_zero, rfl⟩⟩ ?_ ?_
    · rintro i0 dn ρ cs' N hd ⟨c4, c5, c6, c7, c8, c9, c10, xs, rfl, ⟨hxl, hup, rfl⟩⟩ hN
      have hi : sdN dn = i0 := by
        match i0, hd with
        | 0, hd => injection hd with e; rw [← e]; rfl
        | 1, hd => injection hd with e; rw [← e]; rfl
      have hi1 : i0 ≤ 1 := by rw [← hi]; cases dn <;> decide
      walk_at "GO"
      refine ⟨by omega, ?_⟩
      refine r_loopE (fun i ρ cs' => ∃ (c5 c6 c7 c8 c9 c10 : Option D) (xs : List D), ρ = [some (b.d), some (wd), some (dR r), some (.opq (.ref q)), some (sideD dn), c5, c6, c7, c8, c9, c10] ∧ xs.length = i0 * (ws.length - 1) + i ∧ Up r (m + 1) b ws xs.length xs ∧ cs' = (q, .lst xs) :: cs) (rng1' (a := 1) (n := ws.length - 1) (by omega) rfl) ⟨_, _, _, _, _, _, _, rfl, ⟨hxl, hup, rfl⟩⟩ ?_ ?_
      · rintro j j' ρ cs' N2 hd2 ⟨c5, c6, c7, c8, c9, c10, xs, rfl, ⟨hxl2, hup2, rfl⟩⟩ hN2
        obtain ⟨hj, rfl⟩ := range_get hd2
        have k0 : 1 ≤ 1 + j := by omega
        have k1 : 1 + j < ws.length := by omega
        have kj : k + 1 + (1 + j) ≤ 6 ∧ k + 1 + (ws.length - (1 + j)) ≤ 6 := by omega
        have hxs : xs.length ≤ 20 := by
          have := Nat.mul_le_mul_right (ws.length - 1) hi1
          omega
        have hat := spot_at hi hj
        rw [← hxl2] at hat
        walk_at "G1"
        refine r_key (fun ρ cs' => ∃ (c7 c8 c9 c10 : Option D) (p0 p1 : D), ρ = [some (b.d), some (wd), some (dR r), some (.opq (.ref q)), some (sideD dn), some (.int ((1 + j : Nat) : Int)), some (.lst [p0, p1]), c7, c8, c9, c10] ∧ PapR r (m + 1) (halfB b ws (dn, 1 + j) false) (halfW ws (1 + j) false) p0 ∧ PapR r (m + 1) (halfB b ws (dn, 1 + j) true) (halfW ws (1 + j) true) p1 ∧ cs' = (q, .lst xs) :: cs) ?_ (fun nx key => ?_)
        case refine_2 =>
          walk_at "GO"
          refine ⟨by show 2 ≤ 100000; decide, r_ccons ?_⟩
          walk_at "GO"
          have wt := hw.take k0 k1
          have wdp := hw.drop k1
          have pf := fst_pos hp hw k0 k1 dn
          have ps := snd_pos hp hw k0 k1 dn
          have vf := fst_lv hv (by omega) hw k0 k1 dn
          have vs := snd_lv hv (by omega) hw k0 k1 dn
          have lt_ : (ws.take (1 + j)).length = 1 + j := by rw [List.length_take]; omega
          have ld_ : (ws.drop (1 + j)).length = ws.length - (1 + j) := by rw [List.length_drop]
          refine ⟨fstB b ws (1 + j) dn, _, ws.take (1 + j), r, k + 1, rfl, .inl rfl, wt, hr, by omega, by omega, pf, vf, by omega, fun x hx lx => r_ccons ?_, fun x sx => r_ccons ?_⟩
          all_goals walk_at "GO"
          · refine ⟨sndB b ws (1 + j) dn, _, ws.drop (1 + j), r, k + 1, rfl, .inl rfl, wdp, hr, by omega, by omega, ps, vs, by omega, fun y hy ly => r_cnil ?_, fun y sy => r_cnil ?_⟩
            · exact key _ _ ⟨_, _, _, _, _, _, rfl, ⟨.inl ⟨rfl, x, hx, lx⟩, .inl ⟨rfl, y, hy, ly⟩, rfl⟩⟩
            · exact key _ _ ⟨_, _, _, _, _, _, rfl, ⟨.inl ⟨rfl, x, hx, lx⟩, .inr ⟨_, rfl, sy⟩, rfl⟩⟩
          · refine ⟨sndB b ws (1 + j) dn, _, ws.drop (1 + j), r, k + 1, rfl, .inl rfl, wdp, hr, by omega, by omega, ps, vs, by omega, fun y hy ly => r_cnil ?_, fun y sy => r_cnil ?_⟩
            · exact key _ _ ⟨_, _, _, _, _, _, rfl, ⟨.inr ⟨_, rfl, sx⟩, .inl ⟨rfl, y, hy, ly⟩, rfl⟩⟩
            · exact key _ _ ⟨_, _, _, _, _, _, rfl, ⟨.inr ⟨_, rfl, sx⟩, .inr ⟨_, rfl, sy⟩, rfl⟩⟩
        rintro ρ cs' ⟨c7, c8, c9, c10, p0, p1, rfl, ⟨hA, hB, rfl⟩⟩
        have fin : ∀ (h : Bool) (x : List D), St r (m + 1) (halfB b ws (dn, 1 + j) h) (halfW ws (1 + j) h) (.tup x) → (xs ++ [D.tup [bitD h, .tup x]]).length = i0 * (ws.length - 1) + (j + 1) ∧ Up r (m + 1) b ws (xs ++ [D.tup [bitD h, .tup x]]).length (xs ++ [D.tup [bitD h, .tup x]]) := fun h x hS => by
          rw [List.length_append]
          exact ⟨by show xs.length + 1 = _; omega, up_snoc rfl hup2 hat ⟨h, _, rfl, hS⟩⟩
        rcases hA with ⟨rfl, x, hx, lx⟩ | ⟨x, rfl, sx⟩
        · rcases hB with ⟨rfl, y, hy, ly⟩ | ⟨y, rfl, sy⟩
          · walk_at "GO"
            refine ⟨by show 2 ≤ 100000; decide, r_ccons ?_⟩
            walk_at "GO"
            refine r_isF rfl (r_ccons ?_)
            walk_at "GO"
            refine r_isF rfl (r_cnil ?_)
            walk_at "GO"
            refine r_eqNil (ns := []) (by decide) ?_
            walk_at "GO"
            refine r_isT rfl ?_
            walk_at "GO"
            have hx' : x.n = 1 + j := by rw [hx]; show (ws.take (1 + j)).length = _; rw [List.length_take]; omega
            have hy' : y.n = ws.length - (1 + j) := by rw [hy]; show (ws.drop (1 + j)).length = _; rw [List.length_drop]
            refine h0 (.nd dn x y) (by show x.n + y.n = _; omega) ?_
            rw [tw_nd dn x y b ws hx']
            rcases mxR_mem (tw x (fstB b ws (1 + j) dn) (ws.take (1 + j))) (tw y (sndB b ws (1 + j) dn) (ws.drop (1 + j))) with e | e <;> rw [e]
            · exact lx
            · exact ly
          · walk_at "GO"
            refine ⟨by show 2 ≤ 100000; decide, r_ccons ?_⟩
            walk_at "GO"
            refine r_isF rfl (r_ccons ?_)
            walk_at "GO"
            refine r_isT rfl ?_
            walk_at "GO"
            refine r_cnil ?_
            walk_at "GO"
            refine r_eqNil (ns := [1]) (by decide) ?_
            walk_at "GO"
            refine r_isF rfl ?_
            walk_at "GO"
            exact hN2 _ _ ⟨_, _, _, _, _, _, _, rfl, ⟨(fin true y sy).1, (fin true y sy).2, rfl⟩⟩
        · rcases hB with ⟨rfl, y, hy, ly⟩ | ⟨y, rfl, sy⟩
          all_goals
            walk_at "GO"
            refine ⟨by show 2 ≤ 100000; decide, r_ccons ?_⟩
            walk_at "GO"
            refine r_isT rfl ?_
            walk_at "GO"
            refine r_ccons ?_
            walk_at "GO"
          · refine r_isF rfl (r_cnil ?_)
            walk_at "GO"
            refine r_eqNil (ns := [0]) (by decide) ?_
            walk_at "GO"
            refine r_isF rfl ?_
            walk_at "GO"
            exact hN2 _ _ ⟨_, _, _, _, _, _, _, rfl, ⟨(fin false x sx).1, (fin false x sx).2, rfl⟩⟩
          · refine r_isT rfl ?_
            walk_at "GO"
            refine r_cnil ?_
            walk_at "GO"
            refine r_eqNil (ns := [0, 1]) (by decide) ?_
            walk_at "GO"
            refine r_isF rfl ?_
            walk_at "GO"
            exact hN2 _ _ ⟨_, _, _, _, _, _, _, rfl, ⟨(fin false x sx).1, (fin false x sx).2, rfl⟩⟩
      · rintro ρ cs' ⟨c5, c6, c7, c8, c9, c10, xs, rfl, ⟨hxl2, hup2, rfl⟩⟩
        rw [List.length_range] at hxl2
        exact hN _ _ ⟨_, _, _, _, _, _, _, _, rfl, ⟨by rw [Nat.succ_mul]; exact hxl2, hup2, rfl⟩⟩
    · rintro ρ cs' ⟨c4, c5, c6, c7, c8, c9, c10, xs, rfl, ⟨hxl, hup, rfl⟩⟩
      walk_at "GO"
      rw [show [true, false].length = 2 from rfl] at hxl
      exact h1 xs (up_end l2 (by rw [spotL_len]; omega) (by rw [spotL_len]; omega) hup)
local macro_rules | `(tactic| walk_at "cl") => `(tactic| (first | ((with_reducible apply r_paper_by); (walk_at "wd"); (assumption); (walk_at "sz"); (walk_at "in"); (walk_at "pb"); (walk_at "sz"))))
def sp_refuted : DSp := fun ds cs P Z => (∃ (b : Bx) (wd : D) (ws : List Int) (r : Rat), ds = [b.d, wd, dR r] ∧ WD wd ws ∧ WtOk ws ∧ 1 ≤ r ∧ DL.Sz 4000 r ∧ ws.length ≤ 5 ∧ b.Pos ∧ b.Sz 202 ∧ (∀ t : Tr, t.n = ws.length → tw t b ws < r → P .non cs) ∧ ∀ xs, St r 5 b ws (.tup xs) → P (.tup xs) cs) ∨ (∃ (b w r : D), ds = [b, w, r] ∧ (knD b = true ∧ knD w = true ∧ knD r = true) ∧ andW (whyFew b w 5) (whyBound r) ≠ "" ∧ Z (exn (andW (whyFew b w 5) (whyBound r))) cs)
theorem r_refutedX {b w r : D} {cs : Cs} {P : DP} {Z : XZ} (hk : knD b = true ∧ knD w = true ∧ knD r = true) (h1 : andW (whyFew b w 5) (whyBound r) ≠ "") (h : Z (exn (andW (whyFew b w 5) (whyBound r))) cs) : sp_refuted [b, w, r] cs P Z := .inr ⟨b, w, r, rfl, hk, h1, h⟩
theorem r_refuted {b : Bx} {wd : D} {ws : List Int} {r : Rat} {cs : Cs} {P : DP} {Z : XZ} (hwd : WD wd ws) (hw : WtOk ws) (hg : 1 ≤ r) (hr : DL.Sz 4000 r) (hl : ws.length ≤ 5) (hp : b.Pos) (hs : b.Sz 202) (h0 : ∀ t : Tr, t.n = ws.length → tw t b ws < r → P .non cs) (h1 : ∀ xs, St r 5 b ws (.tup xs) → P (.tup xs) cs) : sp_refuted [b.d, wd, dR r] cs P Z := .inl ⟨b, wd, ws, r, rfl, hwd, hw, hg, hr, hl, hp, hs, h0, h1⟩
theorem sc_refuted : FnScope ["box", "weights", "bound"] ["box", "weights", "bound"] (defScope s_refuted) := ⟨rfl, rfl, rfl, by decide +kernel, rfl, by decide +kernel, by decide +kernel⟩
theorem ok_refuted {P : Program} {w : World} {K : PySem.W.Frag} {mg : Str → Option Value} {base : Heap} (T : Txt K mg base) : FnOk P w K mg base (L2.CX P w) 14 (He.ga K "refuted") T.fd_refuted ["box", "weights", "bound"] (spL K 3 sp_refuted) := by
  apply ok_def (k := 13) T.F_refuted sc_refuted
  case hb =>
    intro cdv A outer s H E hr
    exact (dss_cons (ds_expr (d_callN (ok_need_few T) (hr.mono (by decide)) rfl T.g_need_few T.F_need_few.kp (b_need_few T) takesD (da_cons (d_var 0) (da_cons (d_var 1) (da_cons (d_gint rfl T.c_MOST_REFUTED) da_nil)))))
      (dss_cons (ds_expr (d_callN (ok_need_bound T) (hr.mono (by decide)) rfl T.g_need_bound T.F_need_bound.kp (b_need_bound T) takesD (da_cons (d_var 2) da_nil)))
      (dss_one (ds_ret (d_callN (ok_paper_by T 5) (hr.mono (by decide)) rfl T.g_paper_by T.F_paper_by.kp (b_paper_by T) takesD (da_cons (d_var 0) (da_cons (d_var 1) (da_cons (d_var 2) da_nil))))))))
  case hsp =>
    skip
    rintro ds cs Q Z (⟨b, wd, ws, r, rfl, hwd, hw, hg, hr, hl, hp, hs, h0, h1⟩ | ⟨b, w, r, rfl, ⟨kb, kw, k0⟩, hne, hz⟩) _
    · show (_ : WS) (finD Q Z) [some _, some _, some _] cs
      walk_at "GO"
      · exact h0
      · exact h1
    · show (_ : WS) (finD Q Z) [some _, some _, some _] cs
      walk_at "GO"
      refine r_need_fewX kb kw ⟨fun e => ?_, fun e => ?_⟩
      case refine_2 =>
        rw [andW_l e] at hz
        exact hz
      obtain ⟨_, ⟨ws, hwd, hw⟩, _⟩ := whyFew_ok e
      have hl := lenI_wd hwd
      rw [andW_e e] at hne hz
      walk_at "GO"
      exact r_need_boundX k0 ⟨fun e2 => absurd e2 hne, fun _ => hz⟩
local macro_rules | `(tactic| walk_at "cl") => `(tactic| (first | ((with_reducible apply r_refuted); (walk_at "wd"); (assumption); (walk_at "ge"); (walk_at "sz"); (walk_at "in"); (walk_at "pb"); (walk_at "sz"))))
def sp_is_refuted : Nat → DSp
  | 0 => fun _ _ _ _ => False
  | n + 1 => fun ds cs P _ => ∃ (b : Bx) (wd : D) (ws : List Int) (r : Rat) (d : D) (k : Nat), ds = [b.d, wd, dR r, d] ∧ WD wd ws ∧ WtOk ws ∧ DL.Sz 4000 r ∧ plD 20 d = true ∧ ws.length ≤ n + 1 ∧ n ≤ 4 ∧ b.Pos ∧ b.Lv k ∧ k + ws.length ≤ 6 ∧ P (.bl (stB r (n + 1) b ws d)) cs
theorem r_is_refuted {b : Bx} {wd : D} {ws : List Int} {r : Rat} {d : D} {cs : Cs} {P : DP} {Z : XZ} (hwd : WD wd ws) (hw : WtOk ws) (hr : DL.Sz 4000 r) (hd : plD 20 d = true) (hl : ws.length ≤ 5) (hp : b.Pos) (hs : b.Sz 202) (h : P (.bl (stB r 5 b ws d)) cs) : sp_is_refuted 5 [b.d, wd, dR r, d] cs P Z := ⟨b, wd, ws, r, d, 0, rfl, hwd, hw, hr, hd, hl, by decide, hp, hs.lv, by omega, h⟩
theorem sc_is_refuted : FnScope ["box", "weights", "bound", "paper", "spots", "side", "at", "pair", "one", "row"] ["box", "weights", "bound", "paper"] (defScope s_is_refuted) := ⟨rfl, rfl, rfl, by decide +kernel, rfl, by decide +kernel, by decide +kernel⟩
theorem ok_is_refuted {P : Program} {w : World} {K : PySem.W.Frag} {mg : Str → Option Value} {base : Heap} (T : Txt K mg base) (n : Nat) : FnOk P w K mg base (L2.CX P w) (n + 8) (He.ga K "is_refuted") T.fd_is_refuted ["box", "weights", "bound", "paper"] (spL K 4 (sp_is_refuted n)) := by
  induction n with
  | zero => exact vacF
  | succ n G =>
  rw [show n + 1 + 8 = (n + 8) + 1 from by omega]
  apply ok_def (k := n + 8) T.F_is_refuted sc_is_refuted
  case hb =>
    intro cdv A outer s H E hr
    exact (dss_cons (ds_if (dt_eq hr.units (d_callB call_len_seq adq_len rfl T.n_len (by decide +kernel) (da_cons (d_var 1) da_nil)) d_int) (dss_one (ds_ret (d_and (d_eq hr.units (d_var 3) (d_tup da_nil)) (d_one (d_not (d_callN (ok_less T) (hr.mono (by omega)) rfl T.g_less T.F_less.kp (b_less T) takesD (da_cons (d_callN (ok_shape_by T) (hr.mono (by omega)) rfl T.g_shape_by T.F_shape_by.kp (b_shape_by T) takesD (da_cons (d_sub_ix (d_var 0) d_int) (da_cons (d_sub_ix (d_var 0) d_int) da_nil))) (da_cons (d_var 2) da_nil)))))))) dss_nil)
      (dss_cons (ds_setLc2 (i := 4) RD (fun _ _ _ _ pe => cend_data pe) rfl sc_is_refuted.nd rfl rfl (sw_true rfl rfl rfl (by decide +kernel)) (di_tup (show DE _ _ _ (wC (.tup [.str "down", .str "across"])) from d_gtup (vs := [.str "down", .str "across"]) rfl T.g_SIDES T.k_SIDES)) (vs1 := [6]) (blkOk_by (own := [("side", 5), ("at", 6)]) (N := ["box", "weights", "bound", "paper", "spots", "side", "at", "pair", "one", "row"]) (sc := defScope s_is_refuted) (by decide +kernel)) (by decide) (gok_name (by decide)) (gok_name (by decide)) (fun _ _ _ _ _ => (pg_name (i := 5) sc_is_refuted.nd rfl (Or.inl rfl))) (fun _ _ _ _ _ => dts_nil) (fun _ _ _ _ _ => (di_range2 rfl T.n_range (da_cons d_int (da_cons (d_callB call_len_seq adq_len rfl T.n_len (by decide +kernel) (da_cons (d_var 1) da_nil)) da_nil)))) (fun _ _ _ _ _ => (pg_name (i := 6) sc_is_refuted.nd rfl (Or.inl rfl))) (fun _ _ _ _ _ => dts_nil) (fun _ _ _ _ _ => (d_tup (da_cons (d_var 5) (da_cons (d_var 6) da_nil)))))
      (dss_cons (ds_if (dt_w (dw_or (dt_not (dt_val (d_callB call_isi adq_isi rfl T.n_isinstance (by decide +kernel) (da_cons (d_var 3) (da_cons (d_ty (n := "tuple") rfl T.n_tuple (by decide +kernel)) da_nil))))) (dw_or1 (dt_ne hr.units (d_callB call_len_seq adq_len rfl T.n_len (by decide +kernel) (da_cons (d_var 3) da_nil)) (d_callB call_len_seq adq_len rfl T.n_len (by decide +kernel) (da_cons (d_var 4) da_nil)))))) (dss_one (ds_ret d_bl)) dss_nil)
      (dss_cons (ds_for passD rfl (di_zipM rfl T.n_zip (da_cons (d_var 4) (da_cons (d_var 3) da_nil))) (dg_tup (n := 2) rfl (dgs_cons (dg_tup (n := 2) rfl (dgs_cons (dg_name (i := 5) sc_is_refuted.nd rfl (Or.inl rfl)) (dgs_cons (dg_name (i := 6) sc_is_refuted.nd rfl (Or.inl rfl)) dgs_nil))) (dgs_cons (dg_name (i := 7) sc_is_refuted.nd rfl (Or.inl rfl)) dgs_nil))) (dss_cons (ds_if (dt_w (dw_or (dt_not (dt_val (d_callB call_isi adq_isi rfl T.n_isinstance (by decide +kernel) (da_cons (d_var 7) (da_cons (d_ty (n := "tuple") rfl T.n_tuple (by decide +kernel)) da_nil))))) (dw_or (dt_ne hr.units (d_callB call_len_seq adq_len rfl T.n_len (by decide +kernel) (da_cons (d_var 7) da_nil)) d_int) (dw_or (dt_not (dt_val (d_callN (ok_is_whole T) (hr.mono (by omega)) rfl T.g_is_whole T.F_is_whole.kp (b_is_whole T) takesD (da_cons (d_sub_ix (d_var 7) d_int) da_nil)))) (dw_or1 (dt_notinQ hr.units (d_sub_ix (d_var 7) d_int) (d_tup (da_cons d_int (da_cons d_int da_nil))))))))) (dss_one (ds_ret d_bl)) dss_nil)
      (dss_cons (ds_asg (d_sub_ix (d_callN (ok_two_by T) (hr.mono (by omega)) rfl T.g_two_by T.F_two_by.kp (b_two_by T) takesD (da_cons (d_var 0) (da_cons (d_var 1) (da_cons (d_var 6) (da_cons (d_var 5) da_nil))))) (d_sub_ix (d_var 7) d_int)) (dg_tup (n := 2) rfl (dgs_cons (dg_name (i := 8) sc_is_refuted.nd rfl (Or.inl rfl)) (dgs_cons (dg_name (i := 9) sc_is_refuted.nd rfl (Or.inl rfl)) dgs_nil))))
      (dss_one (ds_if (dt_not (dt_val (d_callN G hr rfl T.g_is_refuted T.F_is_refuted.kp (b_is_refuted T) takesD (da_cons (d_var 8) (da_cons (d_var 9) (da_cons (d_var 2) (da_cons (d_sub_ix (d_var 7) d_int) da_nil))))))) (dss_one (ds_ret d_bl)) dss_nil)))))
      (dss_one (ds_ret d_bl))))))
  case hsp =>
    skip
    rintro ds cs Q Z ⟨b, wd, ws, r, d, k, rfl, hwd, hw, hr, hd, hl, hn, hp, hv, hk, h⟩ _
    have l0 := hw.l0
    have l1 := hw.l1
    have bsz := hv.sz (show k ≤ 5 by omega)
    show (_ : WS) (finD Q Z) [some _, some _, some _, some _, none, none, none, none, none, none] cs
    walk_at "GO"
    by_cases e1 : ws.length = 1
    · refine r_pos (by omega) ?_
      have zs := hv.shp (by omega) hp
      walk_at "GO"
      refine r_eqNilT hd (fun e => ?_) (fun e => ?_)
      · walk_at "GO"
        rw [show stB r (n + 1) b ws d = !decide (shapeR b.w b.h < r) from by
          rw [Bool.eq_iff_iff, stB_iff, st_one e1, Bool.not_eq_true', decide_eq_false_iff_not, Rat.not_lt]
          exact ⟨fun q => q.2, fun q => ⟨e, q⟩⟩] at h
        exact h
      · walk_at "GO"
        rw [stB_no fun z => e ((st_one e1).mp z).1] at h
        exact h
    refine r_neg_ (by omega) ?_
    have l2 : 1 < ws.length := by omega
    obtain ⟨m, rfl⟩ : ∃ m, n = m + 1 := ⟨n - 1, by omega⟩
    walk_at "GO"
    refine r_c2mE (l := [true, false]) (g := sideD) rfl (fun dn => (List.range (ws.length - 1)).map fun i => .tup [sideD dn, .int ((1 + i : Nat) : Int)]) (fun dn acc N hm hN hl2 => ?_) ?_
    · walk_at "GO"
      rw [List.length_map, List.length_range] at hl2
      have hl3 : acc.length + (ws.length - 1) ≤ 100000 := Nat.le_trans hl2 (by rw [spots_flat, List.length_map, spotL_len]; omega)
      refine ⟨by omega, by rw [rng_len]; omega, ?_⟩
      rw [rng1' (lo := 1) (a := 1) (n := ws.length - 1) (by omega) rfl]
      refine r_cmA (fun i => .tup [sideD dn, .int ((1 + i : Nat) : Int)]) acc (fun i N' N'' hm hN2 => ?_) hN
      walk_at "GO"
      exact hN2
    rw [spots_flat]
    walk_at "GO"
    by_cases hx : ∃ xs, d = .tup xs
    case neg =>
      have hn' : ∀ xs, d ≠ .tup xs := fun xs e => hx ⟨xs, e⟩
      rw [st_not_tup hn'] at h
      cases d <;> try first
        | exact (plD_bad hd rfl).elim
        | (walk_at "GO"; exact h)
        | exact absurd rfl (hn' _)
    obtain ⟨xs, rfl⟩ := hx
    walk_at "GO"
    rw [List.length_map]
    by_cases hxl : xs.length = (spotL ws.length).length
    case neg =>
      refine r_nneg (by omega) ?_
      walk_at "GO"
      rw [st_not_len l2 hxl] at h
      exact h
    refine r_npos (by omega) ?_
    walk_at "GO"
    have hzl : ((spotL ws.length).zip xs).length = xs.length := by rw [List.length_zip]; omega
    refine ⟨_, _, _, _, rfl, rfl, rfl, ?_⟩
    refine r_loopE (fun i ρ cs' => ∃ (c5 c6 c7 c8 c9 : Option D), ρ = [some (b.d), some (wd), some (dR r), some (.tup xs), some (.lst ((spotL ws.length).map spotD)), c5, c6, c7, c8, c9] ∧ Up r (m + 1) b ws i xs ∧ cs = cs') (l := (spotL ws.length).zip xs) (g := fun p => .tup [spotD p.1, p.2]) (zip_spots _ _) ⟨_, _, _, _, _, rfl, ⟨up_zero, rfl⟩⟩ ?_ ?_
    · rintro i ⟨⟨dn, a⟩, x⟩ ρ cs' N hd0 ⟨c5, c6, c7, c8, c9, rfl, ⟨hup, rfl⟩⟩ hN
      obtain ⟨hs, hx⟩ := List.getElem?_zip_eq_some.mp hd0
      have hsm := spot_mem.mp (List.mem_of_getElem? hs)
      simp only at hsm
      have px : plD 20 x = true := plD_mono x (plL_mem (plD_t (n := 19) hd) (List.mem_of_getElem? hx)) (by decide)
      have no : (¬ PairOk (fun h e => St r (m + 1) (halfB b ws (dn, a) h) (halfW ws a h) e) x) → Q (.bl false) cs := fun z => by
        rw [st_not_at l2 hs hx z] at h; exact h
      show gT 2 _ (.tup [.tup [sideD dn, .int (a : Int)], x]) _ _
      by_cases hxt : ∃ ys, x = .tup ys
      case neg =>
        have no2 := no fun z => by obtain ⟨_, e, q, _⟩ := z; exact hxt ⟨_, q⟩
        cases x <;> try first
          | exact (plD_bad px rfl).elim
          | (walk_at "GO"; exact no2)
          | exact absurd ⟨_, rfl⟩ hxt
      obtain ⟨ys, rfl⟩ := hxt
      by_cases hyl : ys.length = 2
      case neg =>
        walk_at "GO"
        refine r_nneg (by omega) ?_
        walk_at "GO"
        exact no fun z => by obtain ⟨_, e, q, _⟩ := z; injection q with q; rw [q] at hyl; exact hyl rfl
      obtain ⟨y0, y1, rfl⟩ := len_two hyl
      have py := plD_t (n := 19) px
      simp only [plL, Bool.and_eq_true] at py
      obtain ⟨p0, p1, -⟩ := py
      walk_at "GO"
      refine ⟨fun hk2 => absurd hk2 (by simp), fun _ => ?_⟩
      walk_at "GO"
      refine ⟨y0, rfl, plD_kn y0 p0, ?_⟩
      by_cases hyi : ∃ i, y0 = .int i
      case neg =>
        have ew : wholeD y0 = false := by cases y0 <;> first | rfl | exact absurd ⟨_, rfl⟩ hyi
        rw [ew]
        walk_at "GO"
        exact no fun z => by obtain ⟨_, e, q, _⟩ := z; injection q with q; injection q with q _; exact hyi ⟨_, q⟩
      obtain ⟨y, rfl⟩ := hyi
      rw [show wholeD (.int y) = true from rfl]
      walk_at "GO"
      refine r_ninBits (fun hf ef => ?_) (fun ef => ?_)
      case refine_2 =>
        walk_at "GO"
        exact no fun z => by obtain ⟨_, e, q, _⟩ := z; injection q with q; injection q with q _; exact ef _ q
      injection ef with ef
      subst ef
      have wh := twoW_half (b := b) (p := (dn, a)) hf hw hsm.1 hsm.2
      have ph := half_pos (p := (dn, a)) hf hp hw hsm.1 hsm.2
      have vh := half_lv (p := (dn, a)) hf hv (by omega) hw hsm.1 hsm.2
      have lh := halfW_len hsm.1 hsm.2 hf
      walk_at "GO"
      have p1' : plD 20 y1 = true := plD_mono y1 p1 (by decide)
      unfold twoD
      refine r_ixT (d := .tup [(halfB b ws (dn, a) hf).d, .lst ((halfW ws a hf).map D.int)]) (by cases hf <;> rfl) ?_
      walk_at "GO"
      refine ⟨_, _, _, r, y1, k + 1, rfl, .inl rfl, wh, hr, p1', by omega, by omega, ph, vh, by omega, ?_⟩
      by_cases hS : St r (m + 1) (halfB b ws (dn, a) hf) (halfW ws a hf) y1
      · rw [stB_iff.mpr hS]
        walk_at "GO"
        refine hN _ _ ⟨_, _, _, _, _, rfl, ⟨up_step hup hs hx ⟨hf, y1, rfl, hS⟩, rfl⟩⟩
      · rw [stB_no hS]
        walk_at "GO"
        exact no fun z => by
          obtain ⟨g, e, q, hS2⟩ := z
          injection q with q
          injection q with q1 q2
          injection q2 with q2 _
          rw [bit_inj (h := hf) q1, q2] at hS
          exact hS hS2
    · rintro ρ cs' ⟨c5, c6, c7, c8, c9, rfl, ⟨hup, rfl⟩⟩
      walk_at "GO"
      rw [stB_iff.mpr (up_end l2 hxl (by rw [hzl, hxl]; exact Nat.le_refl _) hup)] at h
      exact h
local macro_rules | `(tactic| walk_at "cl") => `(tactic| (first | ((with_reducible apply r_is_refuted); (walk_at "wd"); (assumption); (walk_at "sz"); (assumption); (walk_at "in"); (walk_at "pb"); (walk_at "sz"))))
def sp_refutes : DSp := fun ds cs P Z => (∃ (b : Bx) (wd : D) (ws : List Int) (r : Rat) (d : D), ds = [b.d, wd, dR r, d] ∧ WD wd ws ∧ WtOk ws ∧ 1 ≤ r ∧ DL.Sz 4000 r ∧ plD 20 d = true ∧ ws.length ≤ 5 ∧ b.Pos ∧ b.Sz 202 ∧ P (.bl (stB r 5 b ws d)) cs) ∨ (∃ (b w r x : D), ds = [b, w, r, x] ∧ (knD b = true ∧ knD w = true ∧ knD r = true) ∧ andW (whyFew b w 5) (whyBound r) ≠ "" ∧ Z (exn (andW (whyFew b w 5) (whyBound r))) cs)
theorem r_refutesX {b w r x : D} {cs : Cs} {P : DP} {Z : XZ} (hk : knD b = true ∧ knD w = true ∧ knD r = true) (h1 : andW (whyFew b w 5) (whyBound r) ≠ "") (h : Z (exn (andW (whyFew b w 5) (whyBound r))) cs) : sp_refutes [b, w, r, x] cs P Z := .inr ⟨b, w, r, x, rfl, hk, h1, h⟩
theorem r_refutes {b : Bx} {wd : D} {ws : List Int} {r : Rat} {d : D} {cs : Cs} {P : DP} {Z : XZ} (hwd : WD wd ws) (hw : WtOk ws) (hg : 1 ≤ r) (hr : DL.Sz 4000 r) (hd : plD 20 d = true) (hl : ws.length ≤ 5) (hp : b.Pos) (hs : b.Sz 202) (h : P (.bl (stB r 5 b ws d)) cs) : sp_refutes [b.d, wd, dR r, d] cs P Z := .inl ⟨b, wd, ws, r, d, rfl, hwd, hw, hg, hr, hd, hl, hp, hs, h⟩
theorem sc_refutes : FnScope ["box", "weights", "bound", "paper"] ["box", "weights", "bound", "paper"] (defScope s_refutes) := ⟨rfl, rfl, rfl, by decide +kernel, rfl, by decide +kernel, by decide +kernel⟩
theorem ok_refutes {P : Program} {w : World} {K : PySem.W.Frag} {mg : Str → Option Value} {base : Heap} (T : Txt K mg base) : FnOk P w K mg base (L2.CX P w) 14 (He.ga K "refutes") T.fd_refutes ["box", "weights", "bound", "paper"] (spL K 4 sp_refutes) := by
  apply ok_def (k := 13) T.F_refutes sc_refutes
  case hb =>
    intro cdv A outer s H E hr
    exact (dss_cons (ds_expr (d_callN (ok_need_few T) (hr.mono (by decide)) rfl T.g_need_few T.F_need_few.kp (b_need_few T) takesD (da_cons (d_var 0) (da_cons (d_var 1) (da_cons (d_gint rfl T.c_MOST_REFUTED) da_nil)))))
      (dss_cons (ds_expr (d_callN (ok_need_bound T) (hr.mono (by decide)) rfl T.g_need_bound T.F_need_bound.kp (b_need_bound T) takesD (da_cons (d_var 2) da_nil)))
      (dss_one (ds_ret (d_callN (ok_is_refuted T 5) (hr.mono (by decide)) rfl T.g_is_refuted T.F_is_refuted.kp (b_is_refuted T) takesD (da_cons (d_var 0) (da_cons (d_var 1) (da_cons (d_var 2) (da_cons (d_var 3) da_nil)))))))))
  case hsp =>
    skip
    rintro ds cs Q Z (⟨b, wd, ws, r, d, rfl, hwd, hw, hg, hr, hd, hl, hp, hs, h⟩ | ⟨b, w, r, x, rfl, ⟨kb, kw, k0⟩, hne, hz⟩) _
    · show (_ : WS) (finD Q Z) [some _, some _, some _, some _] cs
      walk_at "GO"
      exact h
    · show (_ : WS) (finD Q Z) [some _, some _, some _, some _] cs
      walk_at "GO"
      refine r_need_fewX kb kw ⟨fun e => ?_, fun e => ?_⟩
      case refine_2 =>
        rw [andW_l e] at hz
        exact hz
      obtain ⟨_, ⟨ws, hwd, hw⟩, _⟩ := whyFew_ok e
      have hl := lenI_wd hwd
      rw [andW_e e] at hne hz
      walk_at "GO"
      exact r_need_boundX k0 ⟨fun e2 => absurd e2 hne, fun _ => hz⟩
local macro_rules | `(tactic| walk_at "cl") => `(tactic| (first | ((with_reducible apply r_refutes); (walk_at "wd"); (assumption); (walk_at "ge"); (walk_at "sz"); (assumption); (walk_at "in"); (walk_at "pb"); (walk_at "sz"))))
abbrev tbD (K : PySem.W.Frag) : List (Addr × Str) := [(tabA K "law", "law.<locals>.<lambda>")]
def sp_law (K : PySem.W.Frag) : DSp := sp_lawT (tbls (tbD K))
theorem tr_fw : ∀ (t : Tr) (n : Nat), t.n ≤ n → n ≤ 100 → Fw n 3 t.d
  | .lf, n, h, _ => by
    cases n with
    | zero => cases h
    | succ n => exact Fw.mk_tup (xs := []) (by decide) (by decide) fun x hx => (nomatch hx)
  | .nd dn a b, n, h, hn => by
    have ha := a.n_pos
    have hb := b.n_pos
    have h' : a.n + b.n ≤ n := h
    cases n with
    | zero => omega
    | succ n =>
      refine Fw.mk_tup (xs := [sideD dn, a.d, b.d]) (by decide) (by show 3 ≤ 3; decide) fun x hx => ?_
      simp only [List.mem_cons, List.not_mem_nil, or_false] at hx
      rcases hx with rfl | rfl | rfl
      · cases n <;> exact ⟨rfl, rfl⟩
      · exact tr_fw a n (by omega) (by omega)
      · exact tr_fw b n (by omega) (by omega)
theorem cut_six {ws : List Int} : DL.cutD (ws.map D.int) none (some 6) = (ws.take 6).map D.int := by
  unfold DL.cutD
  rw [show HT.sIx (ws.map D.int).length 0 none = 0 from rfl, List.drop_zero]
  have e : HT.sIx (ws.map D.int).length (ws.map D.int).length (some 6) = min 6 ws.length := by
    rw [show (some 6 : Option Int) = some ((6 : Nat) : Int) from rfl, HT.sIx_nat, List.length_map]
  rw [e, Nat.sub_zero, ← List.map_take]
  by_cases h : ws.length ≤ 6
  · rw [Nat.min_eq_right h, List.take_of_length_le (Nat.le_refl _), List.take_of_length_le h]
  · rw [Nat.min_eq_left (by omega)]
theorem whyTree_isTr {d : D} {n : Nat} (h : isTr d n = false) : whyTree d n = "BadSizes" := by
  unfold whyTree
  rw [show ((n : Int)).toNat = n by omega]
  refine badW_f (treeOk_f fun z => ?_)
  obtain ⟨t, rfl, e⟩ := z
  rw [isTr_t, e, decide_eq_true rfl] at h
  cases h
theorem few_many {b : Bx} {ws : List Int} {m : Int} (hp : b.Pos) (hw : WtOk ws) (hl : m < ws.length) : whyFew b.d (.lst (ws.map D.int)) m = "BadSizes" := by
  unfold whyFew whyBox whyWt
  rw [badW_t (boxD_Bx hp), badW_t (wtD_wd (.inl rfl) hw), lenI_wd (.inl rfl), badW_f (decide_eq_false (by omega))]; rfl
theorem sc_law : FnScope ["_law_script", "_law_bag_here", "_law_turn", "_law_box_here", "_law_weights_here", "_law_tree_here", "_law_due", "_law_handed", "_law_worst_due", "_law_one", "_law_bent", "_law_words", "_law_more"] ["_law_script"] (defScope s_law) := ⟨rfl, rfl, rfl, by decide +kernel, rfl, by decide +kernel, by decide +kernel⟩
theorem ok_law {P : Program} {w : World} {K : PySem.W.Frag} {mg : Str → Option Value} {base : Heap} (T : Txt K mg base) : FnOk P w K mg base (L2.CX P w) 26 (He.ga K "law") T.fd_law ["_law_script"] (spL K 1 (sp_law K)) := by
  apply ok_defC (k := 25) T.F_law T.cd_law sc_law
  case hb =>
    intro A outer s H E hr
    exact (dss_cons (ds_set (i := 1) sc_law.nd rfl (Or.inr rfl) (d_callN (ok_law_bag T) (hr.mono (by decide)) rfl T.g_law_bag T.F_law_bag.kp (b_law_bag T) takesD (da_cons (d_var 0) da_nil)))
      (dss_cons (ds_for passD rfl (di_range1 rfl T.n_range (da_cons d_int da_nil)) (dg_name (i := 2) sc_law.nd rfl (Or.inl rfl)) (dss_cons (ds_asg (d_tup (da_cons (d_callN (ok_law_box T) (hr.mono (by decide)) rfl T.g_law_box T.F_law_box.kp (b_law_box T) takesD (da_cons (d_var 1) da_nil)) (da_cons (d_callN (ok_law_weights T) (hr.mono (by decide)) rfl T.g_law_weights T.F_law_weights.kp (b_law_weights T) takesD (da_cons (d_var 1) (da_cons d_int da_nil))) da_nil))) (dg_tup (n := 2) rfl (dgs_cons (dg_name (i := 3) sc_law.nd rfl (Or.inr rfl)) (dgs_cons (dg_name (i := 4) sc_law.nd rfl (Or.inr rfl)) dgs_nil))))
      (dss_cons (ds_set (i := 5) sc_law.nd rfl (Or.inl rfl) (d_callN (ok_law_tree T 8) (hr.mono (by decide)) rfl T.g_law_tree T.F_law_tree.kp (b_law_tree T) takesD (da_cons (d_var 1) (da_cons (d_callB call_len_seq adq_len rfl T.n_len (by decide +kernel) (da_cons (d_var 4) da_nil)) da_nil))))
      (dss_cons (ds_set (i := 6) sc_law.nd rfl (Or.inl rfl) (d_callN (ok_law_sliced T 6) (hr.mono (by decide)) rfl T.g_law_sliced T.F_law_sliced.kp (b_law_sliced T) takesD (da_cons (d_var 3) (da_cons (d_var 4) (da_cons (d_var 5) da_nil)))))
      (dss_cons (ds_set (i := 7) sc_law.nd rfl (Or.inl rfl) (d_callTy call_list_of adq_list rfl T.n_list (by decide +kernel) (da_cons (d_var 4) da_nil)))
      (dss_cons (ds_if (dt_w (dw_or (dt_not (dt_val (d_callN (ok_law_same T 6) (hr.mono (by decide)) rfl T.g_law_same T.F_law_same.kp (b_law_same T) takesD (da_cons (d_callN (ok_sliced T) (hr.mono (by decide)) rfl T.g_sliced T.F_sliced.kp (b_sliced T) takesD (da_cons (d_var 3) (da_cons (d_var 7) (da_cons (d_var 5) da_nil)))) (da_cons (d_var 6) da_nil))))) (dw_or1 (dt_ne hr.units (d_var 7) (d_var 4))))) (dss_one (ds_ret d_bl)) dss_nil)
      (dss_cons (ds_set (i := 8) sc_law.nd rfl (Or.inl rfl) (d_callN (ok_law_most T) (hr.mono (by decide)) rfl T.g_law_most T.F_law_most.kp (b_law_most T) takesD (da_cons (d_lc rfl sc_law.nd (di_list (d_var 6)) (blkOk_by (own := [("_law_one", 9)]) (N := ["_law_script", "_law_bag_here", "_law_turn", "_law_box_here", "_law_weights_here", "_law_tree_here", "_law_due", "_law_handed", "_law_worst_due", "_law_one", "_law_bent", "_law_words", "_law_more"]) (sc := defScope s_law) (by decide +kernel)) (gok_name (by decide)) (fun _ _ _ _ _ => (pg_name (i := 9) sc_law.nd rfl (Or.inl rfl))) (fun _ _ _ _ _ => dts_nil) (fun _ _ _ _ _ => (d_callN (ok_law_shape T) (hr.mono (by decide)) rfl T.g_law_shape T.F_law_shape.kp (b_law_shape T) takes0 (da_cons (d_sub_ix (d_var 9) d_int) (da_cons (d_sub_ix (d_var 9) d_int) da_nil))))) da_nil)))
      (dss_cons (ds_if (dt_not (dt_val (d_callN (ok_law_same T 6) (hr.mono (by decide)) rfl T.g_law_same T.F_law_same.kp (b_law_same T) takesD (da_cons (d_callN (ok_slices_worst T) (hr.mono (by decide)) rfl T.g_slices_worst T.F_slices_worst.kp (b_slices_worst T) takesD (da_cons (d_var 3) (da_cons (d_callTy call_tuple_of adq_tuple rfl T.n_tuple (by decide +kernel) (da_cons (d_var 4) da_nil)) (da_cons (d_var 5) da_nil)))) (da_cons (d_var 8) da_nil))))) (dss_one (ds_ret d_bl)) dss_nil)
      (dss_cons (ds_set (i := 10) sc_law.nd rfl (Or.inr rfl) (d_callN (ok_law_bent_tuple T 7) (hr.mono (by decide)) rfl T.g_law_bent_tuple T.F_law_bent_tuple.kp (b_law_bent_tuple T) takesD (da_cons (d_var 1) (da_cons (d_var 5) (da_cons d_int da_nil)))))
      (dss_cons (ds_if (dt_not (dt_val (d_callN (ok_law_is_tree T 13) (hr.mono (by decide)) rfl T.g_law_is_tree T.F_law_is_tree.kp (b_law_is_tree T) takesD (da_cons (d_var 10) (da_cons (d_callB call_len_seq adq_len rfl T.n_len (by decide +kernel) (da_cons (d_var 4) da_nil)) da_nil))))) (dss_cons (ds_set (i := 11) sc_law.nd rfl (Or.inl rfl) (d_lst (da_cons (d_lam (k := 22) (q := "law.<locals>.<lambda>") (tk_law_why T) (td_why T.xcatch) takesD (hr.mono (by decide)) rfl T.g_law_why T.F_law_why.kp T.tb_law rfl (LamX.lamS_by (by show LamX.lamSB (defScope s_law) _ = true; decide +kernel)) (fun A outer s H E f c hr => (d_callN (ok_sliced T) (hr.mono (by decide)) rfl T.g_sliced T.F_sliced.kp (b_sliced T) takesL (da_cons (d_var 3) (da_cons (d_var 4) (da_cons (d_var 10) da_nil)))))) (da_cons (d_lamD (k := 22) (q := "law.<locals>.<lambda>") (a := "_law_a") (tk_law_why T) (td_why T.xcatch) takesD (hr.mono (by decide)) rfl T.g_law_why T.F_law_why.kp T.tb_law rfl (lamT_by (by show lamTB ["_law_script", "_law_bag_here", "_law_turn", "_law_box_here", "_law_weights_here", "_law_tree_here", "_law_due", "_law_handed", "_law_worst_due", "_law_one", "_law_bent", "_law_words", "_law_more"] (defScope s_law) _ = true; decide +kernel)) rfl (fun A outer s H E f c hr => (d_callN (ok_slices_worst T) (hr.mono (by decide)) rfl T.g_slices_worst T.F_slices_worst.kp (b_slices_worst T) takesL (da_cons (d_var 3) (da_cons (d_var 4) (da_cons (d_var 10) da_nil)))))) da_nil))))
      (dss_one (ds_if (dt_ne hr.units (d_var 11) (d_lst (da_cons d_str (da_cons d_str da_nil)))) (dss_one (ds_ret d_bl)) dss_nil))) dss_nil)
      (dss_cons (ds_set (i := 12) sc_law.nd rfl (Or.inr rfl) (d_catL (d_var 4) (d_lrep (da_cons d_int da_nil) (d_sub d_int (d_callB call_len_seq adq_len rfl T.n_len (by decide +kernel) (da_cons (d_var 4) da_nil))))))
      (dss_cons (ds_set (i := 11) sc_law.nd rfl (Or.inl rfl) (d_lstM (da_cons (d_lam (k := 22) (q := "law.<locals>.<lambda>") (tk_law_why T) (td_why T.xcatch) takesD (hr.mono (by decide)) rfl T.g_law_why T.F_law_why.kp T.tb_law rfl (LamX.lamS_by (by show LamX.lamSB (defScope s_law) _ = true; decide +kernel)) (fun A outer s H E f c hr => (d_callN (ok_sliced T) (hr.mono (by decide)) rfl T.g_sliced T.F_sliced.kp (b_sliced T) takesL (da_cons (d_var 3) (da_cons (d_var 12) (da_cons (d_callN (ok_law_tree T 8) (hr.mono (by decide)) rfl T.g_law_tree T.F_law_tree.kp (b_law_tree T) takesL (da_cons (d_var 1) (da_cons d_int da_nil))) da_nil)))))) (da_cons (d_lamD (k := 22) (q := "law.<locals>.<lambda>") (a := "_law_a") (tk_law_why T) (td_why T.xcatch) takesD (hr.mono (by decide)) rfl T.g_law_why T.F_law_why.kp T.tb_law rfl (lamT_by (by show lamTB ["_law_script", "_law_bag_here", "_law_turn", "_law_box_here", "_law_weights_here", "_law_tree_here", "_law_due", "_law_handed", "_law_worst_due", "_law_one", "_law_bent", "_law_words", "_law_more"] (defScope s_law) _ = true; decide +kernel)) rfl (fun A outer s H E f c hr => (d_callN (ok_best_slices T) (hr.mono (by decide)) rfl T.g_best_slices T.F_best_slices.kp (b_best_slices T) takesL (da_cons (d_var 3) (da_cons (d_var 12) da_nil))))) da_nil))))
      (dss_cons (ds_expr (d_append (d_var 11) (da_cons (d_lam (k := 22) (q := "law.<locals>.<lambda>") (tk_law_why T) (td_why T.xcatch) takesD (hr.mono (by decide)) rfl T.g_law_why T.F_law_why.kp T.tb_law rfl (LamX.lamS_by (by show LamX.lamSB (defScope s_law) _ = true; decide +kernel)) (fun A outer s H E f c hr => (d_callN (ok_refuted T) (hr.mono (by decide)) rfl T.g_refuted T.F_refuted.kp (b_refuted T) takesL (da_cons (d_var 3) (da_cons (d_slice sl_list adq_slL (d_var 12) do_none (do_some d_int)) (da_cons (d_tup (da_cons d_int (da_cons d_int da_nil))) da_nil)))))) da_nil)))
      (dss_cons (ds_frzA 11 (ds_expr (d_append (d_var 11) (da_cons (d_lam (k := 22) (q := "law.<locals>.<lambda>") (tk_law_why T) (td_why T.xcatch) takesD (hr.mono (by decide)) rfl T.g_law_why T.F_law_why.kp T.tb_law rfl (LamX.lamS_by (by show LamX.lamSB (defScope s_law) _ = true; decide +kernel)) (fun A outer s H E f c hr => (d_callN (ok_refutes T) (hr.mono (by decide)) rfl T.g_refutes T.F_refutes.kp (b_refutes T) takesL (da_cons (d_var 3) (da_cons (d_slice sl_list adq_slL (d_var 12) do_none (do_some d_int)) (da_cons (d_tup (da_cons d_int (da_cons d_int da_nil))) (da_cons (d_tup da_nil) da_nil))))))) da_nil))))
      (dss_one (ds_if (dt_ne hr.units (d_var 11) (d_lrep (da_cons d_str da_nil) d_int)) (dss_one (ds_ret d_bl)) dss_nil))))))))))))))))
      (dss_one (ds_ret (d_eq hr.units (d_lst (da_cons (d_gint rfl T.c_MOST_SLICED) (da_cons (d_gint rfl T.c_MOST_REFUTED) da_nil))) (d_lst (da_cons d_int (da_cons d_int da_nil))))))))
  case hsp =>
    skip
    rintro ds cs Q Z ⟨ns, rfl, hl, hcs, h⟩ _
    show (_ : WS) (finD Q Z) [some _, none, none, none, none, none, none, none, none, none, none, none, none] cs
    have htb : look (tabA K "law") cs = some (.tbl "law.<locals>.<lambda>") := by subst hcs; simp [tbls, tbD, look]
    clear hcs
    walk_at "GO"
    refine ⟨ns, rfl, fun p b hp hb => ?_⟩
    have hne := look_ne htb hp
    have hbag : BagIn p ((p, b) :: cs) := ⟨b, by simp [look], hb⟩
    have htb1 : look (tabA K "law") ((p, b) :: cs) = some (.tbl "law.<locals>.<lambda>") := (look_cons_ne hne).trans htb
    walk_at "GO"
    refine ⟨⟨by decide, by decide⟩, ?_⟩
    refine r_loop0 (fun i ρ cs' => ∃ (c2 c3 c4 c5 c6 c7 c8 c9 c10 c11 c12 : Option D), ρ = [some (.lst (ns.map D.int)), some (.opq (.ref p)), c2, c3, c4, c5, c6, c7, c8, c9, c10, c11, c12] ∧ BagIn p cs' ∧ look (tabA K "law") cs' = some (.tbl "law.<locals>.<lambda>")) ⟨_, _, _, _, _, _, _, _, _, _, _, rfl, ⟨hbag, htb1⟩⟩ ?_ ?_
    · rintro i d ρ ca N hd ⟨c2, c3, c4, c5, c6, c7, c8, c9, c10, c11, c12, rfl, ⟨hb1, ht1⟩⟩ hN
      walk_at "GO"
      intro bx cb hp hs st1
      walk_at "GO"
      intro ws cc hw hm st2
      have l0 := hw.l0
      have l1 := hw.l1
      have hm6 : ws.length ≤ 6 := by omega
      have kw : knD (.lst (ws.map D.int)) = true := knL_ints ws
      walk_at "GO"
      rw [List.length_map]
      walk_at "GO"
      intro t cd ht st3
      have hok := slc_ok t bx ws 0 ht hw hp hs.lv (by omega)
      have hnel := slc_ne t bx ws
      have hsl := slc_len t bx ws
      have hsz : ∀ r ∈ (slc t bx ws).map fun c => shapeR c.w c.h, DL.Sz 4000 r := fun r hr => by
        obtain ⟨c, hc, rfl⟩ := List.mem_map.mp hr
        obtain ⟨pc, j, hj, lc⟩ := hok c hc
        exact lc.shp hj pc
      walk_at "GO"
      refine r_neSelf (plD_ints ws (by omega)) ?_
      walk_at "GO"
      refine ⟨by rw [List.length_map, slc_len]; omega, ?_⟩
      refine r_cmE (l := slc t bx ws) (g := Bx.d) rfl (fun c => dR (shapeR c.w c.h)) (fun c N N' hm hN => ?_) ?_
      · obtain ⟨pc, j, hj, lc⟩ := hok c hm
        have := lc.sz hj
        walk_at "GO"
        exact hN
      rw [show ((slc t bx ws).map fun c => dR (shapeR c.w c.h)) = ((slc t bx ws).map fun c => shapeR c.w c.h).map dR by rw [List.map_map]; rfl]
      walk_at "GO"
      rw [← tw_eq]
      walk_at "GO"
      refine r_law_bent_tuple (N := 8) (L := 3) ((tr_fw t 8 (by omega) (by decide))) (by decide) (by decide) (by decide) (by decide) (by decide) (by decide) st3.bag (fun bd ce hbd st4 => ?_)
      have pbd := plD_mono (n := 8) (m := 12) bd hbd.p (by decide)
      have ht4 : look (tabA K "law") ce = some (.tbl "law.<locals>.<lambda>") := by walk_at "tb"
      have hb4 := st4.bag
      clear st1 st2 st3 st4 hsz hok hnel hsl
      walk_at "G1"
      refine r_key (fun ρ cs' => ∃ (c5 c6 c7 c8 c9 c10 c11 c12 : Option D), ρ = [some (.lst (ns.map D.int)), some (.opq (.ref p)), some (d), some (bx.d), some (.lst (ws.map D.int)), c5, c6, c7, c8, c9, c10, c11, c12] ∧ ce = cs') ?_ (fun nx key => ?_)
      case refine_2 =>
        walk_at "GO"
        rw [List.length_map]
        cases hq : isTr bd ws.length with
        | true =>
          walk_at "GO"
          exact key _ _ ⟨_, _, _, _, _, _, _, _, rfl, rfl⟩
        | false =>
          have e : andW (whyFew bx.d (.lst (ws.map D.int)) 6) (whyTree bd (lenI (.lst (ws.map D.int)))) = "BadSizes" := by
            rw [whyFew_good (.inl rfl) hp hw (by omega), andW_r, lenI_wd (.inl rfl)]
            exact whyTree_isTr hq
          walk_at "GO"
          refine r_slicedX ⟨rfl, kw, pbd⟩ (by rw [e]; decide) ?_
          rw [e]
          walk_at "GO"
          refine r_slices_worstX ⟨rfl, kw, pbd⟩ (by rw [e]; decide) ?_
          rw [e]
          walk_at "GO"
          refine r_neSelf rfl ?_
          walk_at "GO"
          exact key _ _ ⟨_, _, _, _, _, _, _, _, rfl, rfl⟩
      rintro ρ cf ⟨c5, c6, c7, c8, c9, c10, c11, c12, rfl, rfl⟩
      have hmo : ws.map D.int ++ (List.replicate (7 - ws.length) [D.int 3]).flatten = (ws ++ List.replicate (7 - ws.length) 3).map D.int := by
        rw [List.map_append, List.map_replicate]
        congr 1
        generalize 7 - ws.length = n
        induction n with
        | zero => rfl
        | succ n ih => rw [List.replicate_succ, List.flatten_cons, ih, List.replicate_succ]; rfl
      have hms : WtOk (ws ++ List.replicate (7 - ws.length) 3) := by
        refine ⟨by rw [List.length_append, List.length_replicate]; omega, by rw [List.length_append, List.length_replicate]; omega, fun w hw2 => ?_⟩
        rcases List.mem_append.mp hw2 with hw2 | hw2
        · exact hw.rg w hw2
        · rw [List.eq_of_mem_replicate hw2]; decide
      have hml : (ws ++ List.replicate (7 - ws.length) 3).length = 7 := by rw [List.length_append, List.length_replicate]; omega
      have hm6 : WtOk ((ws ++ List.replicate (7 - ws.length) 3).take 6) := ⟨by rw [List.length_take]; omega, by rw [List.length_take]; omega, fun w hw2 => hms.rg w (List.mem_of_mem_take hw2)⟩
      have hl6 : ((ws ++ List.replicate (7 - ws.length) 3).take 6).length = 6 := by rw [List.length_take]; omega
      walk_at "G1"
      refine ⟨7 - ws.length, by rw [List.length_map]; exact congrArg D.int (by omega), by show 1 * _ ≤ _; omega, by omega, ?_⟩
      refine r_catLL (by have z := congrArg List.length hmo; rw [List.length_append, List.length_map, List.length_map, hml] at z; rw [List.length_map]; omega) ?_
      rw [hmo]
      generalize hgg : ws ++ List.replicate (7 - ws.length) 3 = ms at hms hml hm6 hl6 ⊢
      have km : knD (.lst (ms.map D.int)) = true := knL_ints ms
      have f6 : whyFew bx.d (.lst (ms.map D.int)) 6 = "BadSizes" := few_many hp hms (by omega)
      have f5 : whyFew bx.d (.lst ((ms.take 6).map D.int)) 5 = "BadSizes" := few_many hp hm6 (by omega)
      have nb : ("BadSizes" : Str) ≠ "" := by decide
      walk_at "GO"
      refine r_law_tree (m := 7) (by decide) (by decide) hb4 (fun t7 cg ht7 st5 => ?_)
      walk_at "GO"
      refine r_slicedX ⟨rfl, km, t7.plD 12 (by omega)⟩ (by rw [f6, andW_l nb]; exact nb) ?_
      rw [f6, andW_l nb]
      have ht5 : look (tabA K "law") cg = some (.tbl "law.<locals>.<lambda>") := by walk_at "tb"
      walk_at "GO"
      refine r_best_slicesX ⟨rfl, km⟩ (by rw [f6]; exact nb) ?_
      rw [f6]
      walk_at "GO"
      intro q hq
      have hneq := look_ne ht5 hq
      walk_at "GO"
      rw [cut_six]
      walk_at "GO"
      refine r_refutedX ⟨rfl, knL_ints _, rfl⟩ (by rw [f5, andW_l nb]; exact nb) ?_
      rw [f5, andW_l nb]
      walk_at "GO"
      rw [cut_six]
      walk_at "GO"
      refine r_refutesX ⟨rfl, knL_ints _, rfl⟩ (by rw [f5, andW_l nb]; exact nb) ?_
      rw [f5, andW_l nb]
      walk_at "GO"
      refine ⟨4, rfl, by show 1 * 4 ≤ 100000; decide, by decide, ?_⟩
      refine r_neSelf rfl ?_
      walk_at "GO"
      exact hN _ _ ⟨_, _, _, _, _, _, _, _, _, _, _, rfl, ⟨st5.bag, ht5⟩⟩
    · rintro ρ ca ⟨c2, c3, c4, c5, c6, c7, c8, c9, c10, c11, c12, rfl, ⟨hb1, ht1⟩⟩
      walk_at "GO"
      refine r_eqSelf rfl ?_
      exact h _
theorem tb_at {K : PySem.W.Frag} {H : Hp} (hT : ∀ p ∈ tfD.map (He.cT K), H p.2 = some (.tbl #[])) : ∀ p ∈ tbD K, H p.1 = some (.tbl #[]) := by
  intro p hp
  have z : p.1 ∈ tfD.map fun q => (He.cT K q).2 := (show (tbD K).map (·.1) = tfD.map (fun q => (He.cT K q).2) from rfl) ▸ List.mem_map.mpr ⟨p, hp, rfl⟩
  obtain ⟨q, hq, e⟩ := List.mem_map.mp z
  rw [← e]
  exact hT _ (List.mem_map.mpr ⟨q, hq, rfl⟩)
theorem facts {K : PySem.W.Frag} {h base : Heap} {mg : Str → Option Value} {w : World} (X : K.In h) (G : h.Ns mainGlobals mg) (cx : He.SaysX faD fnD [] tfD exB w h K) (TB : ∀ p ∈ tfD, LamX.TabB base mg (He.cT K p).1 (He.cT K p).2) : Nonempty (Txt K mg base) := by
  have c : He.SaysD faD fnD K := cx.t.d
  obtain ⟨ex1, ex2⟩ := Bool.and_eq_true_iff.mp cx.more
  obtain ⟨ex3, ex4⟩ := Bool.and_eq_true_iff.mp ex2
  obtain ⟨fd_law_bag, F_law_bag⟩ := c.def_ 0 (d := dd_law_bag) rfl
  obtain ⟨fd_law_get, F_law_get⟩ := c.def_ 1 (d := dd_law_get) rfl
  obtain ⟨fd_law_lean, F_law_lean⟩ := c.def_ 2 (d := dd_law_lean) rfl
  obtain ⟨fd_law_tree, F_law_tree⟩ := c.def_ 3 (d := dd_law_tree) rfl
  obtain ⟨fd_law_gcd, F_law_gcd⟩ := c.def_ 4 (d := dd_law_gcd) rfl
  obtain ⟨fd_law_part, F_law_part⟩ := c.def_ 5 (d := dd_law_part) rfl
  obtain ⟨fd_law_plus, F_law_plus⟩ := c.def_ 6 (d := dd_law_plus) rfl
  obtain ⟨fd_law_times, F_law_times⟩ := c.def_ 7 (d := dd_law_times) rfl
  obtain ⟨fd_law_split, F_law_split⟩ := c.def_ 8 (d := dd_law_split) rfl
  obtain ⟨fd_law_halves, F_law_halves⟩ := c.def_ 9 (d := dd_law_halves) rfl
  obtain ⟨fd_law_many_in, F_law_many_in⟩ := c.def_ 10 (d := dd_law_many_in) rfl
  obtain ⟨fd_law_sliced, F_law_sliced⟩ := c.def_ 11 (d := dd_law_sliced) rfl
  obtain ⟨fd_law_less, F_law_less⟩ := c.def_ 12 (d := dd_law_less) rfl
  obtain ⟨fd_law_most, F_law_most⟩ := c.def_ 13 (d := dd_law_most) rfl
  obtain ⟨fd_law_pick, F_law_pick⟩ := c.def_ 14 (d := dd_law_pick) rfl
  obtain ⟨fd_law_bent_tuple, F_law_bent_tuple⟩ := c.def_ 15 (d := dd_law_bent_tuple) rfl
  obtain ⟨fd_law_small_box, F_law_small_box⟩ := c.def_ 16 (d := dd_law_small_box) rfl
  obtain ⟨fd_law_far, F_law_far⟩ := c.def_ 17 (d := dd_law_far) rfl
  obtain ⟨fd_law_number, F_law_number⟩ := c.def_ 18 (d := dd_law_number) rfl
  obtain ⟨fd_law_some_part, F_law_some_part⟩ := c.def_ 19 (d := dd_law_some_part) rfl
  obtain ⟨fd_law_above, F_law_above⟩ := c.def_ 20 (d := dd_law_above) rfl
  obtain ⟨fd_law_box, F_law_box⟩ := c.def_ 21 (d := dd_law_box) rfl
  obtain ⟨fd_law_weight, F_law_weight⟩ := c.def_ 22 (d := dd_law_weight) rfl
  obtain ⟨fd_law_weights, F_law_weights⟩ := c.def_ 23 (d := dd_law_weights) rfl
  obtain ⟨fd_law_same, F_law_same⟩ := c.def_ 24 (d := dd_law_same) rfl
  obtain ⟨fd_law_is_tree, F_law_is_tree⟩ := c.def_ 25 (d := dd_law_is_tree) rfl
  obtain ⟨fd_law_ask, F_law_ask⟩ := c.def_ 26 (d := dd_law_ask) rfl
  obtain ⟨fd_law_why, F_law_why⟩ := c.def_ 27 (d := dd_law_why) rfl
  obtain ⟨fd_law_over, F_law_over⟩ := c.def_ 28 (d := dd_law_over) rfl
  obtain ⟨fd_law_shape, F_law_shape⟩ := c.def_ 29 (d := dd_law_shape) rfl
  obtain ⟨fd_is_whole, F_is_whole⟩ := c.def_ 30 (d := dd_is_whole) rfl
  obtain ⟨fd_common, F_common⟩ := c.def_ 31 (d := dd_common) rfl
  obtain ⟨fd_is_part, F_is_part⟩ := c.def_ 32 (d := dd_is_part) rfl
  obtain ⟨fd_is_box, F_is_box⟩ := c.def_ 33 (d := dd_is_box) rfl
  obtain ⟨fd_need_box, F_need_box⟩ := c.def_ 34 (d := dd_need_box) rfl
  obtain ⟨fd_are_weights, F_are_weights⟩ := c.def_ 35 (d := dd_are_weights) rfl
  obtain ⟨fd_need_weights, F_need_weights⟩ := c.def_ 36 (d := dd_need_weights) rfl
  obtain ⟨fd_need_few, F_need_few⟩ := c.def_ 37 (d := dd_need_few) rfl
  obtain ⟨fd_things_in, F_things_in⟩ := c.def_ 38 (d := dd_things_in) rfl
  obtain ⟨fd_need_tree, F_need_tree⟩ := c.def_ 39 (d := dd_need_tree) rfl
  obtain ⟨fd_less, F_less⟩ := c.def_ 40 (d := dd_less) rfl
  obtain ⟨fd_greatest, F_greatest⟩ := c.def_ 41 (d := dd_greatest) rfl
  obtain ⟨fd_part, F_part⟩ := c.def_ 42 (d := dd_part) rfl
  obtain ⟨fd_over, F_over⟩ := c.def_ 43 (d := dd_over) rfl
  obtain ⟨fd_shape_by, F_shape_by⟩ := c.def_ 44 (d := dd_shape_by) rfl
  obtain ⟨fd_times, F_times⟩ := c.def_ 45 (d := dd_times) rfl
  obtain ⟨fd_plus, F_plus⟩ := c.def_ 46 (d := dd_plus) rfl
  obtain ⟨fd_split_by, F_split_by⟩ := c.def_ 47 (d := dd_split_by) rfl
  obtain ⟨fd_two_by, F_two_by⟩ := c.def_ 48 (d := dd_two_by) rfl
  obtain ⟨fd_sliced_by, F_sliced_by⟩ := c.def_ 49 (d := dd_sliced_by) rfl
  obtain ⟨fd_slices_worst, F_slices_worst⟩ := c.def_ 50 (d := dd_slices_worst) rfl
  obtain ⟨fd_sliced, F_sliced⟩ := c.def_ 51 (d := dd_sliced) rfl
  obtain ⟨fd_best_tree, F_best_tree⟩ := c.def_ 52 (d := dd_best_tree) rfl
  obtain ⟨fd_best_slices, F_best_slices⟩ := c.def_ 53 (d := dd_best_slices) rfl
  obtain ⟨fd_need_bound, F_need_bound⟩ := c.def_ 54 (d := dd_need_bound) rfl
  obtain ⟨fd_paper_by, F_paper_by⟩ := c.def_ 55 (d := dd_paper_by) rfl
  obtain ⟨fd_refuted, F_refuted⟩ := c.def_ 56 (d := dd_refuted) rfl
  obtain ⟨fd_is_refuted, F_is_refuted⟩ := c.def_ 57 (d := dd_is_refuted) rfl
  obtain ⟨fd_refutes, F_refutes⟩ := c.def_ 58 (d := dd_refutes) rfl
  obtain ⟨fd_law, F_law⟩ := c.def_ 59 (d := dd_law) rfl
  obtain ⟨fd_i_CutError, F_i_CutError⟩ := c.def_ 60 (d := dd_i_CutError) rfl
  obtain ⟨fd_i_BadPart, F_i_BadPart⟩ := c.def_ 61 (d := dd_i_BadPart) rfl
  obtain ⟨fd_i_BadBox, F_i_BadBox⟩ := c.def_ 62 (d := dd_i_BadBox) rfl
  obtain ⟨fd_i_BadWeight, F_i_BadWeight⟩ := c.def_ 63 (d := dd_i_BadWeight) rfl
  obtain ⟨fd_i_BadSizes, F_i_BadSizes⟩ := c.def_ 64 (d := dd_i_BadSizes) rfl
  obtain ⟨fd_i_BadBound, F_i_BadBound⟩ := c.def_ 65 (d := dd_i_BadBound) rfl
  exact ⟨{ g_CutError := He.glo_ok X G (c.fact 79 (f := .glo "CutError") rfl), g_Missing := He.glo_ok X G (c.fact 80 (f := .glo "Missing") rfl), g_NothingLeft := He.glo_ok X G (c.fact 81 (f := .glo "NothingLeft") rfl), g_BadPart := He.glo_ok X G (c.fact 82 (f := .glo "BadPart") rfl), g_BadBox := He.glo_ok X G (c.fact 83 (f := .glo "BadBox") rfl), g_BadWeight := He.glo_ok X G (c.fact 84 (f := .glo "BadWeight") rfl), g_BadSizes := He.glo_ok X G (c.fact 85 (f := .glo "BadSizes") rfl), g_BadBound := He.glo_ok X G (c.fact 86 (f := .glo "BadBound") rfl), g_SIDES := He.glo_ok X G (c.fact 87 (f := .glo "SIDES") rfl), k_SIDES := (of_decide_eq_true ex4).2, x_CutError := DL.xclassB_ok (List.all_eq_true.mp ex1 "CutError" (by decide)), fd_i_CutError := fd_i_CutError, F_i_CutError := F_i_CutError, x_BadPart := DL.xclassB_ok (List.all_eq_true.mp ex1 "BadPart" (by decide)), fd_i_BadPart := fd_i_BadPart, F_i_BadPart := F_i_BadPart, x_BadBox := DL.xclassB_ok (List.all_eq_true.mp ex1 "BadBox" (by decide)), fd_i_BadBox := fd_i_BadBox, F_i_BadBox := F_i_BadBox, x_BadWeight := DL.xclassB_ok (List.all_eq_true.mp ex1 "BadWeight" (by decide)), fd_i_BadWeight := fd_i_BadWeight, F_i_BadWeight := F_i_BadWeight, x_BadSizes := DL.xclassB_ok (List.all_eq_true.mp ex1 "BadSizes" (by decide)), fd_i_BadSizes := fd_i_BadSizes, F_i_BadSizes := F_i_BadSizes, x_BadBound := DL.xclassB_ok (List.all_eq_true.mp ex1 "BadBound" (by decide)), fd_i_BadBound := fd_i_BadBound, F_i_BadBound := F_i_BadBound, n_ValueError := He.free_ok X G (c.fact 88 (f := .free "ValueError") rfl), xcatch := DL.catch_ok (cl := ["CutError", "Missing", "NothingLeft"]) ex3, cd_law := DL.code_of F_law, tb_law := TB ("law", none) (by decide), fd_law_bag := fd_law_bag, F_law_bag := F_law_bag, g_law_bag := He.glo_ok X G (c.fact 0 (f := .glo "_law_bag") rfl), fd_law_get := fd_law_get, F_law_get := F_law_get, g_law_get := He.glo_ok X G (c.fact 1 (f := .glo "_law_get") rfl), fd_law_lean := fd_law_lean, F_law_lean := F_law_lean, g_law_lean := He.glo_ok X G (c.fact 2 (f := .glo "_law_lean") rfl), fd_law_tree := fd_law_tree, F_law_tree := F_law_tree, g_law_tree := He.glo_ok X G (c.fact 3 (f := .glo "_law_tree") rfl), fd_law_gcd := fd_law_gcd, F_law_gcd := F_law_gcd, g_law_gcd := He.glo_ok X G (c.fact 4 (f := .glo "_law_gcd") rfl), fd_law_part := fd_law_part, F_law_part := F_law_part, g_law_part := He.glo_ok X G (c.fact 5 (f := .glo "_law_part") rfl), fd_law_plus := fd_law_plus, F_law_plus := F_law_plus, g_law_plus := He.glo_ok X G (c.fact 6 (f := .glo "_law_plus") rfl), fd_law_times := fd_law_times, F_law_times := F_law_times, g_law_times := He.glo_ok X G (c.fact 7 (f := .glo "_law_times") rfl), fd_law_split := fd_law_split, F_law_split := F_law_split, g_law_split := He.glo_ok X G (c.fact 8 (f := .glo "_law_split") rfl), fd_law_halves := fd_law_halves, F_law_halves := F_law_halves, g_law_halves := He.glo_ok X G (c.fact 9 (f := .glo "_law_halves") rfl), fd_law_many_in := fd_law_many_in, F_law_many_in := F_law_many_in, g_law_many_in := He.glo_ok X G (c.fact 10 (f := .glo "_law_many_in") rfl), fd_law_sliced := fd_law_sliced, F_law_sliced := F_law_sliced, g_law_sliced := He.glo_ok X G (c.fact 11 (f := .glo "_law_sliced") rfl), fd_law_less := fd_law_less, F_law_less := F_law_less, g_law_less := He.glo_ok X G (c.fact 12 (f := .glo "_law_less") rfl), fd_law_most := fd_law_most, F_law_most := F_law_most, g_law_most := He.glo_ok X G (c.fact 13 (f := .glo "_law_most") rfl), fd_law_pick := fd_law_pick, F_law_pick := F_law_pick, g_law_pick := He.glo_ok X G (c.fact 14 (f := .glo "_law_pick") rfl), fd_law_bent_tuple := fd_law_bent_tuple, F_law_bent_tuple := F_law_bent_tuple, g_law_bent_tuple := He.glo_ok X G (c.fact 15 (f := .glo "_law_bent_tuple") rfl), fd_law_small_box := fd_law_small_box, F_law_small_box := F_law_small_box, g_law_small_box := He.glo_ok X G (c.fact 16 (f := .glo "_law_small_box") rfl), fd_law_far := fd_law_far, F_law_far := F_law_far, g_law_far := He.glo_ok X G (c.fact 17 (f := .glo "_law_far") rfl), fd_law_number := fd_law_number, F_law_number := F_law_number, g_law_number := He.glo_ok X G (c.fact 18 (f := .glo "_law_number") rfl), fd_law_some_part := fd_law_some_part, F_law_some_part := F_law_some_part, g_law_some_part := He.glo_ok X G (c.fact 19 (f := .glo "_law_some_part") rfl), fd_law_above := fd_law_above, F_law_above := F_law_above, g_law_above := He.glo_ok X G (c.fact 20 (f := .glo "_law_above") rfl), fd_law_box := fd_law_box, F_law_box := F_law_box, g_law_box := He.glo_ok X G (c.fact 21 (f := .glo "_law_box") rfl), fd_law_weight := fd_law_weight, F_law_weight := F_law_weight, g_law_weight := He.glo_ok X G (c.fact 22 (f := .glo "_law_weight") rfl), fd_law_weights := fd_law_weights, F_law_weights := F_law_weights, g_law_weights := He.glo_ok X G (c.fact 23 (f := .glo "_law_weights") rfl), fd_law_same := fd_law_same, F_law_same := F_law_same, g_law_same := He.glo_ok X G (c.fact 24 (f := .glo "_law_same") rfl), fd_law_is_tree := fd_law_is_tree, F_law_is_tree := F_law_is_tree, g_law_is_tree := He.glo_ok X G (c.fact 25 (f := .glo "_law_is_tree") rfl), fd_law_ask := fd_law_ask, F_law_ask := F_law_ask, g_law_ask := He.glo_ok X G (c.fact 26 (f := .glo "_law_ask") rfl), fd_law_why := fd_law_why, F_law_why := F_law_why, g_law_why := He.glo_ok X G (c.fact 27 (f := .glo "_law_why") rfl), fd_law_over := fd_law_over, F_law_over := F_law_over, g_law_over := He.glo_ok X G (c.fact 28 (f := .glo "_law_over") rfl), fd_law_shape := fd_law_shape, F_law_shape := F_law_shape, g_law_shape := He.glo_ok X G (c.fact 29 (f := .glo "_law_shape") rfl), fd_is_whole := fd_is_whole, F_is_whole := F_is_whole, g_is_whole := He.glo_ok X G (c.fact 30 (f := .glo "is_whole") rfl), fd_common := fd_common, F_common := F_common, g_common := He.glo_ok X G (c.fact 31 (f := .glo "common") rfl), fd_is_part := fd_is_part, F_is_part := F_is_part, g_is_part := He.glo_ok X G (c.fact 32 (f := .glo "is_part") rfl), fd_is_box := fd_is_box, F_is_box := F_is_box, g_is_box := He.glo_ok X G (c.fact 33 (f := .glo "is_box") rfl), fd_need_box := fd_need_box, F_need_box := F_need_box, g_need_box := He.glo_ok X G (c.fact 34 (f := .glo "need_box") rfl), fd_are_weights := fd_are_weights, F_are_weights := F_are_weights, g_are_weights := He.glo_ok X G (c.fact 35 (f := .glo "are_weights") rfl), fd_need_weights := fd_need_weights, F_need_weights := F_need_weights, g_need_weights := He.glo_ok X G (c.fact 36 (f := .glo "need_weights") rfl), fd_need_few := fd_need_few, F_need_few := F_need_few, g_need_few := He.glo_ok X G (c.fact 37 (f := .glo "need_few") rfl), fd_things_in := fd_things_in, F_things_in := F_things_in, g_things_in := He.glo_ok X G (c.fact 38 (f := .glo "things_in") rfl), fd_need_tree := fd_need_tree, F_need_tree := F_need_tree, g_need_tree := He.glo_ok X G (c.fact 39 (f := .glo "need_tree") rfl), fd_less := fd_less, F_less := F_less, g_less := He.glo_ok X G (c.fact 40 (f := .glo "less") rfl), fd_greatest := fd_greatest, F_greatest := F_greatest, g_greatest := He.glo_ok X G (c.fact 41 (f := .glo "greatest") rfl), fd_part := fd_part, F_part := F_part, g_part := He.glo_ok X G (c.fact 42 (f := .glo "part") rfl), fd_over := fd_over, F_over := F_over, g_over := He.glo_ok X G (c.fact 43 (f := .glo "over") rfl), fd_shape_by := fd_shape_by, F_shape_by := F_shape_by, g_shape_by := He.glo_ok X G (c.fact 44 (f := .glo "shape_by") rfl), fd_times := fd_times, F_times := F_times, g_times := He.glo_ok X G (c.fact 45 (f := .glo "times") rfl), fd_plus := fd_plus, F_plus := F_plus, g_plus := He.glo_ok X G (c.fact 46 (f := .glo "plus") rfl), fd_split_by := fd_split_by, F_split_by := F_split_by, g_split_by := He.glo_ok X G (c.fact 47 (f := .glo "split_by") rfl), fd_two_by := fd_two_by, F_two_by := F_two_by, g_two_by := He.glo_ok X G (c.fact 48 (f := .glo "two_by") rfl), fd_sliced_by := fd_sliced_by, F_sliced_by := F_sliced_by, g_sliced_by := He.glo_ok X G (c.fact 49 (f := .glo "sliced_by") rfl), fd_slices_worst := fd_slices_worst, F_slices_worst := F_slices_worst, g_slices_worst := He.glo_ok X G (c.fact 50 (f := .glo "slices_worst") rfl), fd_sliced := fd_sliced, F_sliced := F_sliced, g_sliced := He.glo_ok X G (c.fact 51 (f := .glo "sliced") rfl), fd_best_tree := fd_best_tree, F_best_tree := F_best_tree, g_best_tree := He.glo_ok X G (c.fact 52 (f := .glo "best_tree") rfl), fd_best_slices := fd_best_slices, F_best_slices := F_best_slices, g_best_slices := He.glo_ok X G (c.fact 53 (f := .glo "best_slices") rfl), fd_need_bound := fd_need_bound, F_need_bound := F_need_bound, g_need_bound := He.glo_ok X G (c.fact 54 (f := .glo "need_bound") rfl), fd_paper_by := fd_paper_by, F_paper_by := F_paper_by, g_paper_by := He.glo_ok X G (c.fact 55 (f := .glo "paper_by") rfl), fd_refuted := fd_refuted, F_refuted := F_refuted, g_refuted := He.glo_ok X G (c.fact 56 (f := .glo "refuted") rfl), fd_is_refuted := fd_is_refuted, F_is_refuted := F_is_refuted, g_is_refuted := He.glo_ok X G (c.fact 57 (f := .glo "is_refuted") rfl), fd_refutes := fd_refutes, F_refutes := F_refutes, g_refutes := He.glo_ok X G (c.fact 58 (f := .glo "refutes") rfl), fd_law := fd_law, F_law := F_law, g_law := He.glo_ok X G (c.fact 59 (f := .glo "law") rfl), n_abs := He.free_ok X G (c.fact 60 (f := .free "abs") rfl), n_all := He.free_ok X G (c.fact 61 (f := .free "all") rfl), n_any := He.free_ok X G (c.fact 62 (f := .free "any") rfl), n_bool := He.free_ok X G (c.fact 63 (f := .free "bool") rfl), n_dict := He.free_ok X G (c.fact 64 (f := .free "dict") rfl), n_int := He.free_ok X G (c.fact 65 (f := .free "int") rfl), n_isinstance := He.free_ok X G (c.fact 66 (f := .free "isinstance") rfl), n_len := He.free_ok X G (c.fact 67 (f := .free "len") rfl), n_list := He.free_ok X G (c.fact 68 (f := .free "list") rfl), n_range := He.free_ok X G (c.fact 69 (f := .free "range") rfl), n_str := He.free_ok X G (c.fact 70 (f := .free "str") rfl), n_sum := He.free_ok X G (c.fact 71 (f := .free "sum") rfl), n_tuple := He.free_ok X G (c.fact 72 (f := .free "tuple") rfl), n_zip := He.free_ok X G (c.fact 73 (f := .free "zip") rfl), c_DOWN := He.str_ok X G (c.fact 74 (f := .str "DOWN" "down") rfl), c_MOST_CHILDREN := He.int_ok X G (c.fact 75 (f := .int "MOST_CHILDREN" 12) rfl), c_MOST_REFUTED := He.int_ok X G (c.fact 76 (f := .int "MOST_REFUTED" 5) rfl), c_MOST_SLICED := He.int_ok X G (c.fact 77 (f := .int "MOST_SLICED" 6) rfl), c_MOST_WEIGHT := He.int_ok X G (c.fact 78 (f := .int "MOST_WEIGHT" 400000) rfl) }⟩
end Lw
open PySem PySem.W PySem.Calls PyProof.Rows
set_option maxRecDepth 100000 in
set_option maxHeartbeats 0 in
theorem PySem.Challenge.cw_calmcuts_k25_slices_laid_and_judged_holds : PySem.Challenge.rw_calmcuts_k25_slices_laid_and_judged.Holds := by
  w_on; o_law
  o_head Lw.hk2
  case hw => w_witness2
  case hc =>
    refine LamX.walk_ofTsE (l := PySem.Challenge.rw_calmcuts_k25_slices_laid_and_judged) (n := 63) (k := 26) (x := "_law_script") (CX := fun _ => L2.CX0) rfl (by decide) (by kernel_rfl) ⟨rfl, by decide, by decide⟩ ?F (fun _ _ _ _ _ z => z)
    intro w mg fa h Y G hmg0
    obtain ⟨K, KX, c⟩ := Y
    have hmg : mg ("law" : PySem.Str) = some (.ref fa) := by
      have e : (HandSHeadRun.topDef (OpenLaw.row PySem.Challenge.rw_calmcuts_k25_slices_laid_and_judged).prog 80).name = ("law" : PySem.Str) := by kernel_rfl
      rw [← e]
      exact hmg0
    have ef : fa = He.ga K "law" := DL.ref_inj hmg (He.glo_ok KX G (c.t.d.fact 59 (f := .glo "law") rfl))
    subst ef
    obtain ⟨fd, F⟩ := c.t.d.def_ 59 (d := Lw.dd_law) rfl
    have b := L2.FunD.bindsA (ps := ["_law_script"]) F fun _ _ _ _ _ _ us hl => match us, hl with | [_], _ => rfl
    obtain ⟨_, ex2⟩ := Bool.and_eq_true_iff.mp c.more
    obtain ⟨_, ex4⟩ := Bool.and_eq_true_iff.mp ex2
    refine ⟨K, KX, fd, Lw.tfD.map (He.cT K), (fun vs H Q _ => DL.spL K 1 (Lw.sp_law K) vs H Q fun _ _ _ => False), ?_, ?_, ?_, fun s v => b s [v] rfl, fun H a ns hl _ hT hS => DL.law_startT (ts := Lw.tbD K) (of_decide_eq_true ex4).1 (Lw.tb_at hT) hl hS, fun base _ _ TB => ?_⟩
    · intro p hp
      obtain ⟨q, hq, e⟩ := List.mem_map.mp hp
      subst e
      exact c.empty q hq
    · intro p hp
      obtain ⟨q, hq, e⟩ := List.mem_map.mp hp
      subst e
      exact c.out q hq
    · intro p hp
      obtain ⟨q, hq, e⟩ := List.mem_map.mp hp
      subst e
      exact PySem.W.codeHd_of_K KX (c.hd q hq)
    · obtain ⟨T⟩ := Lw.facts (base := base) KX G c (fun p hp => TB _ (List.mem_map.mpr ⟨p, hp, rfl⟩))
      rw [DL.fd_same F T.F_law]
      exact DL.calmF (Lw.ok_law T)
#print axioms PySem.Challenge.cw_calmcuts_k25_slices_laid_and_judged_holds
