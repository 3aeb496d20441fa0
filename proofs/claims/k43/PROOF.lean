import PyProof.Rows.All
import Wide.All
import OpenK.AllK
import Wide.FinOn
import KE.KStateDown
import Lean
import KE.DataEq
import KE.DataFind
import HandS.ForMost
import HandS.Exc
import HandS.ExcOwn
import HandS.CallSlots
import HandS.Defaults
import HandS.Wide
import HandS.IsInst
import HandS.TupAny
import HandS.Zip
import HandS.Style
import HandS.MakeKwOnly
import HandS.SortInts
import HandS.More
import HandS.WordsExc
import HandS.Lambda
import HandS.TryMany
import HandS.ExcInit
import HandS.ExcField
import HandS.HeadHook4
import HandS.HeadWalk
import HandS.Head0
import HandS.Head1
import HandS.Head2
import HandS.HeadEnd
import HandS.HeadHook1
import HandS.HeadHook2
import HandS.Dict
import HandS.DictComp
import HandS.Iter
import HandS.RevRange
import HandS.Conv
import HandS.TupMul
import HandS.Sort
import HandS.Keys
import KE.KDictCopyH
import KE.KDictSum
import HandS.TupSets
import KE.KDictWalk
import HandS.Flow
import KE.DataMinMax
import KE.SortData
import HandS.EndTab
import HandS.ClsMeth
import HandS.Text
import HandS.FStr
import HandS.Codes
import HandS.Strs
import KE.KDictZip
import KE.KItemsList
import HandS.ListItems
import HandS.DictEq
import KE.KExcInit
import PySem.Challenge.RW_calmcuts_k43_ways_between_boxes
import Open.Tops
set_option Elab.async false
set_option linter.all false
set_option maxRecDepth 100000
set_option maxHeartbeats 4000000
set_option maxHeartbeats 0 in
open_shared Sh for (PySem.W.OpenLaw.prog PySem.Challenge.rw_calmcuts_k43_ways_between_boxes) leaving 1
namespace DL
open PySem PySem.Spec PyProof.Rows L2 LamX ClX
/-- the built-in base of own exceptions -/
inductive XB | v | l | i
  deriving DecidableEq
def XB.nm : XB → String | .v => "ValueError" | .l => "LookupError" | .i => "IndexError"
def XB.new : XB → String | .v => "ValueError.__new__" | .l => "LookupError.__new__" | .i => "IndexError.__new__"
def XB.ini : XB → String | .v => "ValueError.__init__" | .l => "LookupError.__init__" | .i => "IndexError.__init__"
def XB.tail : XB → List Value
  | .v => [.type "ValueError", .type "Exception", .type "BaseException", .type "object"]
  | .l => [.type "LookupError", .type "Exception", .type "BaseException", .type "object"]
  | .i => [.type "IndexError", .type "LookupError", .type "Exception", .type "BaseException", .type "object"]
def refsX (b : XB) : List Value → Bool
  | .ref _ :: r => refsX b r
  | l => l == b.tail
def oexB (K : PySem.W.Frag) (b : XB) (C : Addr) : Bool := (match K.lookup C with
  | some ⟨.type c, _, .cls cd, sl⟩ => decide (c = "type") && (cd.hasDict && (!cd.hasDel && (match cd.mro, sl.toList with
    | .ref C' :: bm, [_, _, _, _, some (.builtin n), _] => decide (C' = C) && (decide (n = b.new) && refsX b bm)
    | _, _ => false)))
  | _ => false) && (decide (PySem.W.findIn K (.ref C) "__setattr__" = some (some (.builtin "object.__setattr__"))) && (decide (PySem.W.subIn K (.ref C) (.type "BaseException") = some true) && (decide (PySem.W.typeIn K (.ref C) = some (.type "type")) && PySem.W.keepIn K (.ref C))))
def noAt (K : PySem.W.Frag) (C : Addr) (f : Str) : Bool := decide (PySem.W.findIn K (.ref C) f = some none)
def xcB (K : PySem.W.Frag) (b : XB) (C : Addr) : Bool := oexB K b C && (xfB K C && (noAt K C "called" && (noAt K C "at" && (noAt K C "name" && noAt K C "what"))))
abbrev iniA (K : PySem.W.Frag) (n : Str) : Addr := He.ma K (He.ga K n) "__init__"
def cfB (K : PySem.W.Frag) (C : Addr) (m : Str) (u : Value) : Bool := match PySem.W.findCls K (.ref C) (.type "type") m with
  | some (.val v) => decide (v = u)
  | _ => false
def xclassB (K : PySem.W.Frag) (b : XB) (n : Str) : Bool := xcB K b (He.ga K n) && (decide (PySem.W.findIn K (.ref (He.ga K n)) "__init__" = some (some (.ref (iniA K n)))) && (decide (PySem.W.typeIn K (.ref (iniA K n)) = some (.type "function")) &&
  (PySem.W.readsIn K (He.ga K n) (.type "type") && (decide (PySem.W.specialIn K (.ref (He.ga K n)) "__getattribute__" = some (some (.builtin "type.__getattribute__"))) &&
    cfB K (He.ga K n) "__init__" (.ref (iniA K n))))))
def asS (g : Addr → Option Obj) (n : Nat) : List Addr := He.asD g n ++ [PySem.cStatics]
abbrev frS (n : Nat) (g : Addr → Option Obj) : PySem.W.Frag := He.frT g (asS g n)
def obsS (n : Nat) (fa : List He.Fa) (fn : List He.DefD) (ts : List He.Tab) (tf : List He.Defn) (ex : PySem.W.Frag → Bool) (g : Addr → Option Obj) : He.AlX :=
  (He.obsT fa fn ts (frS n g), ex (frS n g) && He.tabsB g tf (frS n g))
theorem says_obsS {n : Nat} {fa : List He.Fa} {fn : List He.DefD} {ts : List He.Tab} {tf : List He.Defn} {ex : PySem.W.Frag → Bool} {w : World} {h : Heap} (e : obsS n fa fn ts tf ex h.get? = He.valX fn ts w) : He.SaysX fa fn ts tf ex w h (frS n h.get?) := by
  have a1 : He.obsT fa fn ts (frS n h.get?) = He.valT fn ts w := congrArg Prod.fst e
  have a2 : (ex (frS n h.get?) && He.tabsB h.get? tf (frS n h.get?)) = true := congrArg Prod.snd e
  obtain ⟨b1, b2⟩ := Bool.and_eq_true_iff.mp a2
  have tab : ∀ p ∈ tf, PySem.W.codeHdIn (frS n h.get?) (He.cT (frS n h.get?) p).1 (He.cT (frS n h.get?) p).2 = true ∧ ∃ o, h.get? (He.cT (frS n h.get?) p).2 = some o ∧ He.emptyTab o = true := by
    intro p hp
    obtain ⟨c1, c2⟩ := Bool.and_eq_true_iff.mp (List.all_eq_true.mp b2 p hp)
    refine ⟨c1, ?_⟩
    generalize h.get? (He.cT (frS n h.get?) p).2 = u at c2 ⊢
    cases u with
    | none => cases c2
    | some o => exact ⟨o, rfl, c2⟩
  refine ⟨a1, b1, fun p hp => (tab p hp).1, fun p hp => ?_, fun p hp => ?_⟩
  · obtain ⟨_, o, q, z⟩ := tab p hp
    exact He.frT_none q z
  · obtain ⟨_, o, q, z⟩ := tab p hp
    rw [q, He.emptyTab_eq z]
def hookS (n : Nat) (fa : List He.Fa) (fn : List He.DefD) (ts : List He.Tab) (tf : List He.Defn) (ex : PySem.W.Frag → Bool) : PySem.W.Hook where
  α := He.AlX
  obs := fun s => obsS n fa fn ts tf ex s.heap.get?
  val := fun w => He.valX fn ts w
  says := fun w h => ∃ K : PySem.W.Frag, K.In h ∧ He.SaysX fa fn ts tf ex w h K
  of := fun _ _ e => ⟨_, He.frT_in, says_obsS e⟩
  keeps := fun _ _ _ ⟨K, hK, c⟩ k => ⟨K, hK.keeps k, ⟨c.t, c.more, c.hd, c.out, fun p hp => k _ _ (c.empty p hp)⟩⟩
theorem obsS_eq {n : Nat} {fa : List He.Fa} {fn : List He.DefD} {ts : List He.Tab} {tf : List He.Defn} {ex : PySem.W.Frag → Bool} {g : Addr → Option Obj} {s : Shared} (h : ∀ a, g a = s.heap.get? a) : obsS n fa fn ts tf ex g = (hookS n fa fn ts tf ex).obs s := by
  rw [show g = s.heap.get? from funext h] <;> rfl
/-- the same looks, off a tree that is made of the heap's objects first -/
def treeHook (H : PySem.W.Hook) (ob : PySem.W.SharedT → H.α) (hob : ∀ s, ob s = H.obs s.abs) : PySem.W.Hook where
  α := Option H.α
  obs := fun s => (HandSHeadRun.putAll s.heap.objs.toList .nil 0).map fun r => ob ⟨r.1, r.2, s.heap.life, s.gens, s.drawn, s.toks, s.os⟩
  val := fun w => some (H.val w)
  says := H.says
  of := fun w s e => by
    obtain ⟨⟨T, n⟩, h1, h2⟩ := Option.map_eq_some_iff.mp e
    refine H.of w s ?_
    rw [hob] at h2
    have e2 : PySem.W.SharedT.abs ⟨T, n, s.heap.life, s.gens, s.drawn, s.toks, s.os⟩ = s := by
      show (⟨PySem.W.absHeap T n s.heap.life, s.gens, s.drawn, s.toks, s.os⟩ : Shared) = s
      rw [HandSHeadRun.putAll_heap h1]
    rw [e2] at h2
    exact h2
  keeps := H.keeps
end DL
namespace Lw
open PySem PySem.Spec PyProof.Rows L2
def top (i : Nat) : Stmt := PySem.Challenge.pw_calmcuts_k43_ways_between_boxes.main.body.getD i (.Pass ⟨0, 0, 0, 0⟩)
abbrev s_law_bag : Stmt := top 21
abbrev s_law_get : Stmt := top 22
abbrev s_law_weight : Stmt := top 36
abbrev s_law_weights : Stmt := top 37
abbrev s_law_gcd : Stmt := top 26
abbrev s_law_part : Stmt := top 27
abbrev s_law_far : Stmt := top 24
abbrev s_law_number : Stmt := top 32
abbrev s_law_some_part : Stmt := top 33
abbrev s_law_above : Stmt := top 34
abbrev s_law_plain_box : Stmt := top 35
abbrev s_law_pick : Stmt := top 23
abbrev s_law_names : Stmt := top 48
abbrev s_law_parted : Stmt := top 42
abbrev s_law_plus : Stmt := top 28
abbrev s_law_times : Stmt := top 30
abbrev s_law_split : Stmt := top 40
abbrev s_law_turned_lean : Stmt := top 41
abbrev s_law_laid : Stmt := top 43
abbrev s_law_sizes : Stmt := top 38
abbrev s_law_lean : Stmt := top 39
abbrev s_law_boxes_named : Stmt := top 47
abbrev s_law_ends : Stmt := top 44
abbrev s_need_named : Stmt := top 17
abbrev s_common : Stmt := top 7
abbrev s_part : Stmt := top 8
abbrev s_plus : Stmt := top 9
abbrev s_ends : Stmt := top 13
abbrev s_less : Stmt := top 11
abbrev s_minus : Stmt := top 10
abbrev s_overlap : Stmt := top 14
abbrev s_edge_between : Stmt := top 15
abbrev s_near : Stmt := top 18
abbrev s_way : Stmt := top 19
abbrev s_law_same : Stmt := top 25
abbrev s_law_less : Stmt := top 31
abbrev s_law_minus : Stmt := top 29
abbrev s_law_common : Stmt := top 45
abbrev s_law_edge : Stmt := top 46
abbrev s_law_near : Stmt := top 49
abbrev s_law_way : Stmt := top 50
abbrev s_law : Stmt := top 51
abbrev exL : List Str := []
def dd_law_bag : He.DefD := ⟨("_law_bag", none), "_law_bag", "_law_bag", defArgs s_law_bag, defBody s_law_bag, defScope s_law_bag, [], []⟩
def dd_law_get : He.DefD := ⟨("_law_get", none), "_law_get", "_law_get", defArgs s_law_get, defBody s_law_get, defScope s_law_get, [], []⟩
def dd_law_weight : He.DefD := ⟨("_law_weight", none), "_law_weight", "_law_weight", defArgs s_law_weight, defBody s_law_weight, defScope s_law_weight, [], []⟩
def dd_law_weights : He.DefD := ⟨("_law_weights", none), "_law_weights", "_law_weights", defArgs s_law_weights, defBody s_law_weights, defScope s_law_weights, [], []⟩
def dd_law_gcd : He.DefD := ⟨("_law_gcd", none), "_law_gcd", "_law_gcd", defArgs s_law_gcd, defBody s_law_gcd, defScope s_law_gcd, [], []⟩
def dd_law_part : He.DefD := ⟨("_law_part", none), "_law_part", "_law_part", defArgs s_law_part, defBody s_law_part, defScope s_law_part, [], []⟩
def dd_law_far : He.DefD := ⟨("_law_far", none), "_law_far", "_law_far", defArgs s_law_far, defBody s_law_far, defScope s_law_far, [], []⟩
def dd_law_number : He.DefD := ⟨("_law_number", none), "_law_number", "_law_number", defArgs s_law_number, defBody s_law_number, defScope s_law_number, [], []⟩
def dd_law_some_part : He.DefD := ⟨("_law_some_part", none), "_law_some_part", "_law_some_part", defArgs s_law_some_part, defBody s_law_some_part, defScope s_law_some_part, [], []⟩
def dd_law_above : He.DefD := ⟨("_law_above", none), "_law_above", "_law_above", defArgs s_law_above, defBody s_law_above, defScope s_law_above, [], []⟩
def dd_law_plain_box : He.DefD := ⟨("_law_plain_box", none), "_law_plain_box", "_law_plain_box", defArgs s_law_plain_box, defBody s_law_plain_box, defScope s_law_plain_box, [], []⟩
def dd_law_pick : He.DefD := ⟨("_law_pick", none), "_law_pick", "_law_pick", defArgs s_law_pick, defBody s_law_pick, defScope s_law_pick, [], []⟩
def dd_law_names : He.DefD := ⟨("_law_names", none), "_law_names", "_law_names", defArgs s_law_names, defBody s_law_names, defScope s_law_names, [], []⟩
def dd_law_parted : He.DefD := ⟨("_law_parted", none), "_law_parted", "_law_parted", defArgs s_law_parted, defBody s_law_parted, defScope s_law_parted, [], []⟩
def dd_law_plus : He.DefD := ⟨("_law_plus", none), "_law_plus", "_law_plus", defArgs s_law_plus, defBody s_law_plus, defScope s_law_plus, [], []⟩
def dd_law_times : He.DefD := ⟨("_law_times", none), "_law_times", "_law_times", defArgs s_law_times, defBody s_law_times, defScope s_law_times, [], []⟩
def dd_law_split : He.DefD := ⟨("_law_split", none), "_law_split", "_law_split", defArgs s_law_split, defBody s_law_split, defScope s_law_split, [], []⟩
def dd_law_turned_lean : He.DefD := ⟨("_law_turned_lean", none), "_law_turned_lean", "_law_turned_lean", defArgs s_law_turned_lean, defBody s_law_turned_lean, defScope s_law_turned_lean, [], []⟩
def dd_law_laid : He.DefD := ⟨("_law_laid", none), "_law_laid", "_law_laid", defArgs s_law_laid, defBody s_law_laid, defScope s_law_laid, [], []⟩
def dd_law_sizes : He.DefD := ⟨("_law_sizes", none), "_law_sizes", "_law_sizes", defArgs s_law_sizes, defBody s_law_sizes, defScope s_law_sizes, [], []⟩
def dd_law_lean : He.DefD := ⟨("_law_lean", none), "_law_lean", "_law_lean", defArgs s_law_lean, defBody s_law_lean, defScope s_law_lean, [], []⟩
def dd_law_boxes_named : He.DefD := ⟨("_law_boxes_named", none), "_law_boxes_named", "_law_boxes_named", defArgs s_law_boxes_named, defBody s_law_boxes_named, defScope s_law_boxes_named, [], []⟩
def dd_law_ends : He.DefD := ⟨("_law_ends", none), "_law_ends", "_law_ends", defArgs s_law_ends, defBody s_law_ends, defScope s_law_ends, [], []⟩
def dd_need_named : He.DefD := ⟨("need_named", none), "need_named", "need_named", defArgs s_need_named, defBody s_need_named, defScope s_need_named, [], []⟩
def dd_common : He.DefD := ⟨("common", none), "common", "common", defArgs s_common, defBody s_common, defScope s_common, [], []⟩
def dd_part : He.DefD := ⟨("part", none), "part", "part", defArgs s_part, defBody s_part, defScope s_part, [], []⟩
def dd_plus : He.DefD := ⟨("plus", none), "plus", "plus", defArgs s_plus, defBody s_plus, defScope s_plus, [], []⟩
def dd_ends : He.DefD := ⟨("ends", none), "ends", "ends", defArgs s_ends, defBody s_ends, defScope s_ends, [], []⟩
def dd_less : He.DefD := ⟨("less", none), "less", "less", defArgs s_less, defBody s_less, defScope s_less, [], []⟩
def dd_minus : He.DefD := ⟨("minus", none), "minus", "minus", defArgs s_minus, defBody s_minus, defScope s_minus, [], []⟩
def dd_overlap : He.DefD := ⟨("overlap", none), "overlap", "overlap", defArgs s_overlap, defBody s_overlap, defScope s_overlap, [], []⟩
def dd_edge_between : He.DefD := ⟨("edge_between", none), "edge_between", "edge_between", defArgs s_edge_between, defBody s_edge_between, defScope s_edge_between, [], []⟩
def dd_near : He.DefD := ⟨("near", none), "near", "near", defArgs s_near, defBody s_near, defScope s_near, [], []⟩
def dd_way : He.DefD := ⟨("way", none), "way", "way", defArgs s_way, defBody s_way, defScope s_way, [], []⟩
def dd_law_same : He.DefD := ⟨("_law_same", none), "_law_same", "_law_same", defArgs s_law_same, defBody s_law_same, defScope s_law_same, [], []⟩
def dd_law_less : He.DefD := ⟨("_law_less", none), "_law_less", "_law_less", defArgs s_law_less, defBody s_law_less, defScope s_law_less, [], []⟩
def dd_law_minus : He.DefD := ⟨("_law_minus", none), "_law_minus", "_law_minus", defArgs s_law_minus, defBody s_law_minus, defScope s_law_minus, [], []⟩
def dd_law_common : He.DefD := ⟨("_law_common", none), "_law_common", "_law_common", defArgs s_law_common, defBody s_law_common, defScope s_law_common, [], []⟩
def dd_law_edge : He.DefD := ⟨("_law_edge", none), "_law_edge", "_law_edge", defArgs s_law_edge, defBody s_law_edge, defScope s_law_edge, [], []⟩
def dd_law_near : He.DefD := ⟨("_law_near", none), "_law_near", "_law_near", defArgs s_law_near, defBody s_law_near, defScope s_law_near, [], []⟩
def dd_law_way : He.DefD := ⟨("_law_way", none), "_law_way", "_law_way", defArgs s_law_way, defBody s_law_way, defScope s_law_way, [], []⟩
def dd_law : He.DefD := ⟨("law", none), "law", "law", defArgs s_law, defBody s_law, defScope s_law, [], []⟩
def fnD : List He.DefD := [dd_law_bag, dd_law_get, dd_law_weight, dd_law_weights, dd_law_gcd, dd_law_part, dd_law_far, dd_law_number, dd_law_some_part, dd_law_above, dd_law_plain_box, dd_law_pick, dd_law_names, dd_law_parted, dd_law_plus, dd_law_times, dd_law_split, dd_law_turned_lean, dd_law_laid, dd_law_sizes, dd_law_lean, dd_law_boxes_named, dd_law_ends, dd_need_named, dd_common, dd_part, dd_plus, dd_ends, dd_less, dd_minus, dd_overlap, dd_edge_between, dd_near, dd_way, dd_law_same, dd_law_less, dd_law_minus, dd_law_common, dd_law_edge, dd_law_near, dd_law_way, dd_law]
def faD : List He.Fa := [.glo "_law_bag", .glo "_law_get", .glo "_law_weight", .glo "_law_weights", .glo "_law_gcd", .glo "_law_part", .glo "_law_far", .glo "_law_number", .glo "_law_some_part", .glo "_law_above", .glo "_law_plain_box", .glo "_law_pick", .glo "_law_names", .glo "_law_parted", .glo "_law_plus", .glo "_law_times", .glo "_law_split", .glo "_law_turned_lean", .glo "_law_laid", .glo "_law_sizes", .glo "_law_lean", .glo "_law_boxes_named", .glo "_law_ends", .glo "need_named", .glo "common", .glo "part", .glo "plus", .glo "ends", .glo "less", .glo "minus", .glo "overlap", .glo "edge_between", .glo "near", .glo "way", .glo "_law_same", .glo "_law_less", .glo "_law_minus", .glo "_law_common", .glo "_law_edge", .glo "_law_near", .glo "_law_way", .glo "law", .free "abs", .free "all", .free "bool", .free "dict", .free "enumerate", .free "int", .free "isinstance", .free "len", .free "list", .free "min", .free "range", .free "set", .free "sorted", .free "str", .free "sum", .free "tuple", .free "zip", .glo "NOUGHT"]
abbrev R : PySem.W.OpenRow := PySem.W.OpenLaw.row PySem.Challenge.rw_calmcuts_k43_ways_between_boxes
def tfD : List He.Defn := []
def exB (K : PySem.W.Frag) : Bool := (([] : List (DL.XB × Str)).all fun n => DL.xclassB K n.1 n.2) && ((true && true) && decide ((tfD.map fun p => (He.cT K p).2).Nodup ∧ He.tupB K "NOUGHT" [.int 0, .int 1] = true))
abbrev hk : PySem.W.Hook := DL.hookS 4 faD fnD [] tfD exB
def ob (s : PySem.W.SharedT) : He.AlX := DL.obsS 4 faD fnD [] tfD exB (HandSHeadRun.getT s)
theorem ob_eq (s : PySem.W.SharedT) : ob s = hk.obs s.abs := DL.obsS_eq (HandSHeadRun.getT_eq s)
abbrev hk2 : PySem.W.Hook := DL.treeHook hk ob ob_eq
end Lw
namespace DL
open PySem L2
inductive D where
  | non | bl (b : Bool) | int (i : Int) | str (x : Str)
  | tup (xs : List D) | lst (xs : List D) | dic (kvs : List (Key × D)) | dct (kvs : List (List Key × D))
  | ins (c : Str) (fs : List (Str × D)) | xcp (a dd : Addr) (c : Str) (fs : List (Str × D))
  | opq (v : V)
def Ex (H H' : Hp) : Prop := ∀ a o, H a = some o → H' a = some o
theorem Ex.refl (H : Hp) : Ex H H := fun _ _ h => h
theorem Ex.trans {H H1 H2 : Hp} (a : Ex H H1) (b : Ex H1 H2) : Ex H H2 := fun x o h => b x o (a x o h)
theorem Ex.new {H : Hp} {p : Addr} {o : HO} (h : H p = none) : Ex H (upd H p o) := fun a u e => by
  rw [upd_ne (ne_of_none e h)]; exact e
theorem Ex.back {H H' : Hp} {p : Addr} (e : Ex H H') (h : H' p = none) : H p = none := by
  cases h1 : H p with
  | none => rfl
  | some o => rw [e p o h1] at h; cases h
theorem ex_rd {H H' : Hp} {a : Addr} {u : HO} (e : Ex H H') (h : Rd H a u) : Rd H' a u := by
  rcases h with h | ⟨o, h⟩
  · exact Or.inl (e a _ h)
  · exact Or.inr ⟨o, e a _ h⟩
theorem ex_l {K : PySem.W.Frag} {H H' : Hp} {a : Addr} {xs : List V} (e : Ex H H') (h : SqL K H a xs) : SqL K H' a xs := by
  rcases h with h | h
  · exact Or.inl (ex_rd e h)
  · exact Or.inr h
theorem ex_t {K : PySem.W.Frag} {H H' : Hp} {a : Addr} {xs : List V} (e : Ex H H') (h : SqT K H a xs) : SqT K H' a xs := by
  rcases h with h | h
  · exact Or.inl (ex_rd e h)
  · exact Or.inr h
mutual
inductive Rep (K : PySem.W.Frag) (G : Hp) : V → D → Prop
  | non : Rep K G .non .non
  | bl (b : Bool) : Rep K G (.bl b) (.bl b)
  | int (i : Int) : Rep K G (.int i) (.int i)
  | str (x : Str) : Rep K G (.str x) (.str x)
  | opq (v : V) : Rep K G v (.opq v)
  | lst {a : Addr} {xs : List V} {ds : List D} : SqL K G a xs → RepL K G xs ds → Rep K G (.ref a) (.lst ds)
  | tup {a : Addr} {xs : List V} {ds : List D} : SqT K G a xs → RepL K G xs ds → Rep K G (.ref a) (.tup ds)
  | dic {a : Addr} {o : Obj} {xs : List (Key × V)} {ds : List (Key × D)} : G a = some (.frz o (.dK xs)) → RepK K G xs ds → Rep K G (.ref a) (.dic ds)
  | dct {a : Addr} {o : Obj} {xs : List (List Key × V)} {ds : List (List Key × D)} : G a = some (.frz o (.dT xs)) → RepT K G xs ds → Rep K G (.ref a) (.dct ds)
  | ins {a dx : Addr} {c : Str} {xs : List (Str × V)} {fs : List (Str × D)} : G a = some (.ins (He.ga K c) dx xs) → G dx = some (.own a) → RepF K G xs fs → Rep K G (.ref a) (.ins c fs)
  | xcp {a dd : Addr} {c : Str} {xs : List (Str × V)} {fs : List (Str × D)} : G dd = some (.xd xs) → RepX K G xs fs → Rep K G (.ref a) (.xcp a dd c fs)
inductive RepL (K : PySem.W.Frag) (G : Hp) : List V → List D → Prop
  | nil : RepL K G [] []
  | cons {v : V} {vs : List V} {d : D} {ds : List D} : Rep K G v d → RepL K G vs ds → RepL K G (v :: vs) (d :: ds)
inductive RepK (K : PySem.W.Frag) (G : Hp) : List (Key × V) → List (Key × D) → Prop
  | nil : RepK K G [] []
  | cons {k : Key} {v : V} {vs : List (Key × V)} {d : D} {ds : List (Key × D)} : Rep K G v d → RepK K G vs ds → RepK K G ((k, v) :: vs) ((k, d) :: ds)
inductive RepT (K : PySem.W.Frag) (G : Hp) : List (List Key × V) → List (List Key × D) → Prop
  | nil : RepT K G [] []
  | cons {k : List Key} {v : V} {vs : List (List Key × V)} {d : D} {ds : List (List Key × D)} : Rep K G v d → RepT K G vs ds → RepT K G ((k, v) :: vs) ((k, d) :: ds)
/-- fields, one by one -/
inductive RepF (K : PySem.W.Frag) (G : Hp) : List (Str × V) → List (Str × D) → Prop
  | nil : RepF K G [] []
  | cons {k : Str} {v : V} {vs : List (Str × V)} {d : D} {ds : List (Str × D)} : Rep K G v d → RepF K G vs ds → RepF K G ((k, v) :: vs) ((k, d) :: ds)
/-- some fields, by name -/
inductive RepX (K : PySem.W.Frag) (G : Hp) : List (Str × V) → List (Str × D) → Prop
  | nil {vs : List (Str × V)} : RepX K G vs []
  | cons {k : Str} {v : V} {vs : List (Str × V)} {d : D} {ds : List (Str × D)} : vs.lookup k = some v → Rep K G v d → RepX K G vs ds → RepX K G vs ((k, d) :: ds)
end
mutual
theorem Rep.mono {K : PySem.W.Frag} {G G' : Hp} (e : Ex G G') : ∀ {v : V} {d : D}, Rep K G v d → Rep K G' v d
  | _, _, .non => .non
  | _, _, .bl b => .bl b
  | _, _, .int i => .int i
  | _, _, .str x => .str x
  | _, _, .opq v => .opq v
  | _, _, .lst h r => .lst (ex_l e h) (r.mono e)
  | _, _, .tup h r => .tup (ex_t e h) (r.mono e)
  | _, _, .dic h r => .dic (e _ _ h) (r.mono e)
  | _, _, .dct h r => .dct (e _ _ h) (r.mono e)
  | _, _, .ins h q r => .ins (e _ _ h) (e _ _ q) (r.mono e)
  | _, _, .xcp h r => .xcp (e _ _ h) (r.mono e)
theorem RepL.mono {K : PySem.W.Frag} {G G' : Hp} (e : Ex G G') : ∀ {vs : List V} {ds : List D}, RepL K G vs ds → RepL K G' vs ds
  | _, _, .nil => .nil
  | _, _, .cons h r => .cons (h.mono e) (r.mono e)
theorem RepK.mono {K : PySem.W.Frag} {G G' : Hp} (e : Ex G G') : ∀ {vs : List (Key × V)} {ds : List (Key × D)}, RepK K G vs ds → RepK K G' vs ds
  | _, _, .nil => .nil
  | _, _, .cons h r => .cons (h.mono e) (r.mono e)
theorem RepT.mono {K : PySem.W.Frag} {G G' : Hp} (e : Ex G G') : ∀ {vs : List (List Key × V)} {ds : List (List Key × D)}, RepT K G vs ds → RepT K G' vs ds
  | _, _, .nil => .nil
  | _, _, .cons h r => .cons (h.mono e) (r.mono e)
theorem RepF.mono {K : PySem.W.Frag} {G G' : Hp} (e : Ex G G') : ∀ {vs : List (Str × V)} {ds : List (Str × D)}, RepF K G vs ds → RepF K G' vs ds
  | _, _, .nil => .nil
  | _, _, .cons h r => .cons (h.mono e) (r.mono e)
theorem RepX.mono {K : PySem.W.Frag} {G G' : Hp} (e : Ex G G') : ∀ {vs : List (Str × V)} {ds : List (Str × D)}, RepX K G vs ds → RepX K G' vs ds
  | _, _, .nil => .nil
  | _, _, .cons q h r => .cons q (h.mono e) (r.mono e)
end
theorem RepX.get {K : PySem.W.Frag} {G : Hp} : ∀ {vs : List (Str × V)} {ds : List (Str × D)} {f : Str} {y : D}, RepX K G vs ds → ds.lookup f = some y → ∃ v, vs.lookup f = some v ∧ Rep K G v y
  | _, _, f, y, .nil, e => by cases e
  | _, (k, d) :: ds, f, y, .cons q h r, e => by
    by_cases z : f = k
    · subst z
      simp only [List.lookup, beq_self_eq_true, Option.some.injEq] at e
      subst e
      exact ⟨_, q, h⟩
    · have z2 : (f == k) = false := beq_false_of_ne z
      simp only [List.lookup, z2] at e
      exact r.get e
theorem RepF.get {K : PySem.W.Frag} {G : Hp} : ∀ {vs : List (Str × V)} {ds : List (Str × D)} {f : Str} {y : D}, RepF K G vs ds → ds.lookup f = some y → ∃ v, vs.lookup f = some v ∧ Rep K G v y
  | _, _, f, y, .nil, e => by cases e
  | (_, v) :: vs, (k, d) :: ds, f, y, .cons h r, e => by
    by_cases z : f = k
    · subst z
      simp only [List.lookup, beq_self_eq_true, Option.some.injEq] at e ⊢
      subst e
      exact ⟨_, rfl, h⟩
    · have z2 : (f == k) = false := beq_false_of_ne z
      simp only [List.lookup, z2] at e ⊢
      exact r.get e
theorem RepF.none {K : PySem.W.Frag} {G : Hp} : ∀ {vs : List (Str × V)} {ds : List (Str × D)} {f : Str}, RepF K G vs ds → ds.lookup f = none → vs.lookup f = none
  | _, _, f, .nil, _ => rfl
  | (_, v) :: vs, (k, d) :: ds, f, .cons h r, e => by
    by_cases z : f = k
    · subst z
      simp [List.lookup] at e
    · have z2 : (f == k) = false := beq_false_of_ne z
      simp only [List.lookup, z2] at e ⊢
      exact r.none e
theorem RepL.length {K : PySem.W.Frag} {G : Hp} : ∀ {vs : List V} {ds : List D}, RepL K G vs ds → vs.length = ds.length
  | _, _, .nil => rfl
  | _, _, .cons _ r => congrArg Nat.succ r.length
theorem RepL.get {K : PySem.W.Frag} {G : Hp} : ∀ {vs : List V} {ds : List D} {i : Nat} {d : D}, RepL K G vs ds → ds[i]? = some d → ∃ v, vs[i]? = some v ∧ Rep K G v d
  | _, _, _, _, .nil, e => by simp at e
  | _, _, 0, _, .cons h _, e => by simp at e; subst e; exact ⟨_, rfl, h⟩
  | _, _, i + 1, d, .cons _ r, e => by
    obtain ⟨u, h1, h2⟩ := RepL.get (i := i) (d := d) r (by simpa using e)
    exact ⟨u, by simpa using h1, h2⟩
theorem RepL.append {K : PySem.W.Frag} {G : Hp} : ∀ {vs ws : List V} {ds es : List D}, RepL K G vs ds → RepL K G ws es → RepL K G (vs ++ ws) (ds ++ es)
  | _, _, _, _, .nil, s => s
  | _, _, _, _, .cons h r, s => .cons h (r.append s)
theorem RepL.take {K : PySem.W.Frag} {G : Hp} : ∀ {vs : List V} {ds : List D} (n : Nat), RepL K G vs ds → RepL K G (vs.take n) (ds.take n)
  | _, _, 0, _ => by simp; exact .nil
  | _, _, _ + 1, .nil => .nil
  | _, _, n + 1, .cons h r => .cons h (r.take n)
theorem RepL.drop {K : PySem.W.Frag} {G : Hp} : ∀ {vs : List V} {ds : List D} (n : Nat), RepL K G vs ds → RepL K G (vs.drop n) (ds.drop n)
  | _, _, 0, r => r
  | _, _, _ + 1, .nil => .nil
  | _, _, n + 1, .cons _ r => r.drop n
theorem RepL.set {K : PySem.W.Frag} {G : Hp} {v : V} {d : D} (h : Rep K G v d) : ∀ {vs : List V} {ds : List D} (n : Nat), RepL K G vs ds → RepL K G (vs.set n v) (ds.set n d)
  | _, _, _, .nil => .nil
  | _, _, 0, .cons _ r => .cons h r
  | _, _, n + 1, .cons q r => .cons q (r.set h n)
theorem RepL.intsL {K : PySem.W.Frag} {G : Hp} : ∀ {vs : List V} (ns : List Int), RepL K G vs (ns.map D.int) → vs = ns.map V.int
  | _, [], .nil => rfl
  | _, n :: ns, .cons h r => by
    cases h
    rw [List.map_cons, RepL.intsL ns r]
theorem RepL.ofInts {K : PySem.W.Frag} {G : Hp} : ∀ (ns : List Int), RepL K G (ns.map V.int) (ns.map D.int)
  | [] => .nil
  | n :: ns => .cons (.int n) (RepL.ofInts ns)
theorem RepL.bls {K : PySem.W.Frag} {G : Hp} : ∀ {vs : List V} (ns : List Bool), RepL K G vs (ns.map D.bl) → vs = ns.map V.bl
  | _, [], .nil => rfl
  | _, n :: ns, .cons h r => by
    cases h
    rw [List.map_cons, RepL.bls ns r]
inductive MO where
  | lst (ds : List D) | dic (kvs : List (Key × D)) | dct (kvs : List (List Key × D))
  | tbl (q : Str) | ins (c : Str) (dx : Addr) (fs : List (Str × D))
abbrev Cs := List (Addr × MO)
def adr (cs : Cs) : List Addr := cs.map (·.1)
def pur (F : Hp) (cs : Cs) (H : Hp) : Hp := fun b => if (F b).isSome = true ∨ b ∈ adr cs then none else H b
def MoOk (K : PySem.W.Frag) (G : Hp) : MO → HO → Prop
  | .lst ds, .lst vs => RepL K G vs ds
  | .dic ds, .dK vs => RepK K G vs ds
  | .dct ds, .dT vs => RepT K G vs ds
  | .tbl q, .tbl ps => TriplesOk ps.toList ∧ ∀ (pos : Pos) (cv : Value), codeAmong pos ps.toList = some cv → ∃ c, cv = .ref c ∧ G c = some (LamX.CodeO c q)
  | _, _ => False
theorem MoOk.mono {K : PySem.W.Frag} {G G' : Hp} (e : Ex G G') : ∀ {m : MO} {o : HO}, MoOk K G m o → MoOk K G' m o := by
  intro m o h
  cases m <;> cases o <;> first | exact h.elim | exact RepL.mono e h | exact RepK.mono e h | exact RepT.mono e h | exact ⟨h.1, fun pos cv hc => by
    obtain ⟨c, e1, e2⟩ := h.2 pos cv hc
    exact ⟨c, e1, e _ _ e2⟩⟩
structure Sta (K : PySem.W.Frag) (F G0 : Hp) (cs : Cs) (H : Hp) : Prop where
  fr : Ex F H
  gr : Ex G0 (pur F cs H)
  nd : (adr cs).Nodup
  ap : ∀ a ∈ adr cs, F a = none
  ow : ∀ a m, (a, m) ∈ cs → ∃ o, H a = some o ∧ MoOk K (pur F cs H) m o
  ft : ∀ a xs, F a ≠ some (.tup xs)
section
variable {K : PySem.W.Frag} {F G G0 G1 H H1 H' : Hp} {cs cs1 cs' : Cs} {p : Addr} {o : HO} {m : MO}
theorem Sta.self (s : Sta K F G0 cs H) : Sta K F (pur F cs H) cs H := ⟨s.fr, Ex.refl _, s.nd, s.ap, s.ow, s.ft⟩
theorem Sta.from_ (s : Sta K F G1 cs H) (e : Ex G0 G1) : Sta K F G0 cs H := ⟨s.fr, e.trans s.gr, s.nd, s.ap, s.ow, s.ft⟩
theorem pur_of {b : Addr} {u : HO} (h : pur F cs H b = some u) : H b = some u ∧ F b = none ∧ b ∉ adr cs := by
  unfold pur at h
  split at h
  · cases h
  · rename_i q
    refine ⟨h, ?_, fun z => q (.inr z)⟩
    cases e : F b with
    | none => rfl
    | some x => exact absurd (Or.inl (by rw [e]; rfl)) q
theorem pur_at {b : Addr} (h1 : F b = none) (h2 : b ∉ adr cs) : pur F cs H b = H b := by
  unfold pur
  rw [if_neg]
  rintro (z | z)
  · rw [h1] at z; cases z
  · exact h2 z
/-- a new thing that never changes -/
theorem Sta.new (s : Sta K F G0 cs H) (h : H p = none) : Sta K F (pur F cs H) cs (upd H p o) ∧ pur F cs (upd H p o) p = some o := by
  have hF : F p = none := s.fr.back h
  have hc : p ∉ adr cs := fun z => by
    obtain ⟨⟨a, m⟩, hm, e⟩ := List.mem_map.mp z
    obtain ⟨u, hu, _⟩ := s.ow a m hm
    have e' : a = p := e
    rw [e', h] at hu; cases hu
  have g : Ex (pur F cs H) (pur F cs (upd H p o)) := fun b u e => by
    obtain ⟨e1, e2, e3⟩ := pur_of e
    rw [pur_at e2 e3, upd_ne (ne_of_none e1 h)]; exact e1
  refine ⟨⟨s.fr.trans (Ex.new h), g, s.nd, s.ap, fun a m hm => ?_, s.ft⟩, by rw [pur_at hF hc, upd_same]⟩
  obtain ⟨u, hu, q⟩ := s.ow a m hm
  exact ⟨u, by rw [upd_ne (ne_of_none hu h)]; exact hu, q.mono g⟩
theorem Sta.notin (s : Sta K F G0 cs H) (h : H p = none) : F p = none ∧ p ∉ adr cs := by
  refine ⟨s.fr.back h, fun z => ?_⟩
  obtain ⟨⟨a, m⟩, hm, e⟩ := List.mem_map.mp z
  obtain ⟨u, hu, _⟩ := s.ow a m hm
  have e' : a = p := e
  rw [e', h] at hu; cases hu
/-- a new thing that may change -/
theorem Sta.newM (s : Sta K F G0 cs H) (h : H p = none) (q : MoOk K (pur F cs H) m o) : Sta K F (pur F cs H) ((p, m) :: cs) (upd H p o) := by
  obtain ⟨hF, hc⟩ := s.notin h
  have g : Ex (pur F cs H) (pur F ((p, m) :: cs) (upd H p o)) := fun b u e => by
    obtain ⟨e1, e2, e3⟩ := pur_of e
    have hb : b ≠ p := ne_of_none e1 h
    rw [pur_at e2 (by show b ∉ p :: adr cs; simp [hb, e3]), upd_ne hb]; exact e1
  refine ⟨s.fr.trans (Ex.new h), g, ?_, ?_, ?_, s.ft⟩
  · show (p :: adr cs).Nodup
    exact List.nodup_cons.mpr ⟨hc, s.nd⟩
  · intro a ha
    rcases List.mem_cons.mp (show a ∈ p :: adr cs from ha) with e | e
    · rw [e]; exact hF
    · exact s.ap a e
  · intro a m' hm
    rcases List.mem_cons.mp hm with e | e
    · cases e
      exact ⟨o, upd_same, q.mono g⟩
    · obtain ⟨u, hu, r⟩ := s.ow a m' e
      exact ⟨u, by rw [upd_ne (ne_of_none hu h)]; exact hu, r.mono g⟩
/-- the content of p replaced -/
def put (p : Addr) (m : MO) : Cs → Cs
  | [] => []
  | (a, x) :: r => if a = p then (a, m) :: r else (a, x) :: put p m r
def look (p : Addr) : Cs → Option MO
  | [] => none
  | (a, x) :: r => if a = p then some x else look p r
theorem adr_put (p : Addr) (m : MO) : ∀ cs : Cs, adr (put p m cs) = adr cs
  | [] => rfl
  | (a, x) :: r => by
    unfold put
    split
    · rfl
    · show a :: adr (put p m r) = a :: adr r
      rw [adr_put p m r]
theorem look_mem {p : Addr} {m : MO} : ∀ {cs : Cs}, look p cs = some m → (p, m) ∈ cs
  | [], h => by cases h
  | (a, x) :: r, h => by
    unfold look at h
    split at h
    · rename_i e
      cases h; cases e
      exact List.mem_cons_self ..
    · exact List.mem_cons_of_mem _ (look_mem h)
theorem look_put {p : Addr} {m m' : MO} : ∀ {cs : Cs}, look p cs = some m → look p (put p m' cs) = some m'
  | [], h => by cases h
  | (a, x) :: r, h => by
    unfold look at h
    unfold put
    split at h
    · rename_i e
      rw [if_pos e]
      unfold look
      rw [if_pos e]
    · rename_i e
      rw [if_neg e]
      unfold look
      rw [if_neg e]
      exact look_put h
theorem look_put_ne {p q : Addr} {m : MO} (hn : q ≠ p) : ∀ {cs : Cs}, look q (put p m cs) = look q cs
  | [] => rfl
  | (a, x) :: r => by
    unfold put
    split
    · rename_i e
      unfold look
      rw [if_neg (fun z => hn (z.symm.trans e)), if_neg (fun z => hn (z.symm.trans e))]
    · unfold look
      rw [look_put_ne hn]
theorem put_put {p : Addr} {m m' : MO} : ∀ {cs : Cs}, put p m' (put p m cs) = put p m' cs
  | [] => rfl
  | (a, x) :: r => by
    by_cases e : a = p
    · have e1 : put p m ((a, x) :: r) = (a, m) :: r := by simp [put, e]
      have e2 : put p m' ((a, x) :: r) = (a, m') :: r := by simp [put, e]
      rw [e1, e2]; simp [put, e]
    · have e1 : put p m ((a, x) :: r) = (a, x) :: put p m r := by simp [put, e]
      have e2 : put p m' ((a, x) :: r) = (a, x) :: put p m' r := by simp [put, e]
      rw [e1, e2]
      have ih := put_put (p := p) (m := m) (m' := m') (cs := r)
      simp [put, e, ih]
theorem mem_put {p a : Addr} {m x : MO} : ∀ {cs : Cs}, (adr cs).Nodup → (a, x) ∈ put p m cs → (a = p ∧ x = m) ∨ (a ≠ p ∧ (a, x) ∈ cs)
  | [], _, h => by cases h
  | (b, y) :: r, nd, h => by
    have nd' : (b :: adr r).Nodup := nd
    obtain ⟨n1, n2⟩ := List.nodup_cons.mp nd'
    unfold put at h
    split at h
    · rename_i e
      rcases List.mem_cons.mp h with q | q
      · cases q; exact .inl ⟨e, rfl⟩
      · refine .inr ⟨fun z => n1 ?_, List.mem_cons_of_mem _ q⟩
        rw [e, ← z]; exact List.mem_map.mpr ⟨(a, x), q, rfl⟩
    · rename_i e
      rcases List.mem_cons.mp h with q | q
      · cases q; exact .inr ⟨e, List.mem_cons_self ..⟩
      · rcases mem_put n2 q with z | z
        · exact .inl z
        · exact .inr ⟨z.1, List.mem_cons_of_mem _ z.2⟩
theorem Sta.put (s : Sta K F G0 cs H) (hl : look p cs = some m) {m' : MO} {o' : HO} (q : MoOk K (pur F cs H) m' o') : Sta K F (pur F cs H) (put p m' cs) (upd H p o') := by
  have hp : p ∈ adr cs := List.mem_map.mpr ⟨(p, m), look_mem hl, rfl⟩
  have hF := s.ap p hp
  have e : pur F (DL.put p m' cs) (upd H p o') = pur F cs H := by
    funext b
    unfold pur
    rw [adr_put]
    by_cases hb : b = p
    · subst hb
      rw [if_pos (.inr hp), if_pos (.inr hp)]
    · rw [upd_ne hb]
  refine ⟨fun b u h => ?_, by rw [e]; exact Ex.refl _, by rw [adr_put]; exact s.nd, by rw [adr_put]; exact s.ap, fun a x hx => ?_, s.ft⟩
  · rw [upd_ne (fun z => by rw [z, hF] at h; cases h)]; exact s.fr b u h
  · rw [e]
    rcases mem_put s.nd hx with ⟨e1, e2⟩ | ⟨e1, e2⟩
    · subst e1 e2; exact ⟨o', upd_same, q⟩
    · obtain ⟨u, hu, r⟩ := s.ow a x e2
      exact ⟨u, by rw [upd_ne e1]; exact hu, r⟩
theorem Sta.look (s : Sta K F G0 cs H) (hl : DL.look p cs = some m) : ∃ o, H p = some o ∧ MoOk K (pur F cs H) m o := s.ow p m (look_mem hl)
end
abbrev Env := List (Option D)
structure Exn where
  cls : Str
  fs : List (Str × D)
abbrev XZ := Exn → Cs → Prop
abbrev DP := D → Cs → Prop
abbrev WE := Env → Cs → DP → XZ → Prop
abbrev WT := Env → Cs → (Bool → Cs → Prop) → XZ → Prop
abbrev WA := Env → Cs → (List D → Cs → Prop) → XZ → Prop
structure Fin where
  nx : Env → Cs → Prop
  rt : D → Cs → Prop
  ex : Exn → Env → Cs → Prop := fun _ _ _ => False
  bk : Env → Cs → Prop := fun _ _ => False
  ct : Env → Cs → Prop := fun _ _ => False
abbrev WS := Fin → Env → Cs → Prop
inductive RepO (K : PySem.W.Frag) (G : Hp) : Option V → Option D → Prop
  | skip {o : Option V} : RepO K G o none
  | held {v : V} {d : D} : Rep K G v d → RepO K G (some v) (some d)
inductive RepE (K : PySem.W.Frag) (G : Hp) : St → Env → Prop
  | nil : RepE K G [] []
  | cons {v : Option V} {d : Option D} {σ : St} {ρ : Env} : RepO K G v d → RepE K G σ ρ → RepE K G (v :: σ) (d :: ρ)
section
variable {K : PySem.W.Frag} {G G' : Hp}
theorem RepO.mono (e : Ex G G') {v : Option V} {d : Option D} : RepO K G v d → RepO K G' v d
  | .skip => .skip
  | .held h => .held (h.mono e)
theorem RepE.mono (e : Ex G G') : ∀ {σ : St} {ρ : Env}, RepE K G σ ρ → RepE K G' σ ρ
  | _, _, .nil => .nil
  | _, _, .cons h r => .cons (h.mono e) (r.mono e)
theorem RepE.get : ∀ {σ : St} {ρ : Env} {i : Nat} {d : D}, RepE K G σ ρ → ρ[i]? = some (some d) → ∃ v, σ[i]? = some (some v) ∧ Rep K G v d
  | _, _, _, _, .nil, e => by simp at e
  | _, _, 0, _, .cons h _, e => by
    simp at e; subst e
    cases h with
    | held h => exact ⟨_, rfl, h⟩
  | _, _, i + 1, d, .cons _ r, e => by
    obtain ⟨u, h1, h2⟩ := RepE.get (i := i) (d := d) r (by simpa using e)
    exact ⟨u, by simpa using h1, h2⟩
theorem RepE.set {v : V} {d : D} (h : Rep K G v d) : ∀ {σ : St} {ρ : Env} (i : Nat), RepE K G σ ρ → RepE K G (σ.set i (some v)) (ρ.set i (some d))
  | _, _, _, .nil => .nil
  | _, _, 0, .cons _ r => .cons (.held h) r
  | _, _, i + 1, .cons q r => .cons q (r.set h i)
theorem RepE.start : ∀ {vs : List V} {ds : List D} (n : Nat), RepL K G vs ds → RepE K G (vs.map some ++ List.replicate n none) (ds.map some ++ List.replicate n none)
  | _, _, n, .nil => by
    induction n with
    | zero => exact .nil
    | succ n ih => exact .cons .skip ih
  | _, _, n, .cons h r => .cons (.held h) (RepE.start n r)
end
/-- an exception's dict -/
def XR (K : PySem.W.Frag) (G : Hp) (d : Option Addr) (fs : List (Str × D)) : Prop := ∃ a xs, d = some a ∧ G a = some (.xd xs) ∧ RepX K G xs fs
theorem XR.mono {K : PySem.W.Frag} {G G' : Hp} {d : Option Addr} {fs : List (Str × D)} (h : XR K G d fs) (e : Ex G G') : XR K G' d fs := by
  obtain ⟨a, xs, e1, e2, e3⟩ := h
  exact ⟨a, xs, e1, e _ _ e2, e3.mono e⟩
/-- what is due behind: by value, by exception -/
def PostE (K : PySem.W.Frag) (F G : Hp) (P : DP) (Q : VK) : Prop := ∀ H' cs' v d, Sta K F G cs' H' → Rep K (pur F cs' H') v d → P d cs' → Q v H'
def PostX (K : PySem.W.Frag) (F G : Hp) (Z : XZ) (W : Value → Option Addr → Hp → Prop) : Prop := ∀ H' cs' x d, Sta K F G cs' H' → XR K (pur F cs' H') d x.fs → Z x cs' → W (.ref (He.ga K x.cls)) d H'
theorem PostE.le {K : PySem.W.Frag} {F G G' : Hp} {P : DP} {Q : VK} (h : PostE K F G P Q) (e : Ex G G') : PostE K F G' P Q := fun H' cs' v d s r p => h H' cs' v d (s.from_ e) r p
theorem PostX.le {K : PySem.W.Frag} {F G G' : Hp} {Z : XZ} {W : Value → Option Addr → Hp → Prop} (h : PostX K F G Z W) (e : Ex G G') : PostX K F G' Z W := fun H' cs' x d s r p => h H' cs' x d (s.from_ e) r p
def lE (K : PySem.W.Frag) (W : WX) (w : WE) : TE := fun σ H Q => ∃ F cs ρ P Z, Sta K F (pur F cs H) cs H ∧ RepE K (pur F cs H) σ ρ ∧ w ρ cs P Z ∧ PostE K F (pur F cs H) P Q ∧ PostX K F (pur F cs H) Z fun c d H' => W c d σ H'
def lT (K : PySem.W.Frag) (W : WX) (w : WT) : TT := fun σ H Q => ∃ F cs ρ P Z, Sta K F (pur F cs H) cs H ∧ RepE K (pur F cs H) σ ρ ∧ w ρ cs P Z ∧ (∀ H' cs' b, Sta K F (pur F cs H) cs' H' → P b cs' → Q b H') ∧ PostX K F (pur F cs H) Z fun c d H' => W c d σ H'
def lA (K : PySem.W.Frag) (W : WX) (n : Nat) (w : WA) : TA := fun σ H Q => ∃ F cs ρ P Z, Sta K F (pur F cs H) cs H ∧ RepE K (pur F cs H) σ ρ ∧ w ρ cs P Z ∧
  (∀ H' cs' vs ds, Sta K F (pur F cs H) cs' H' → RepL K (pur F cs' H') vs ds → ds.length = n → P ds cs' → Q vs H') ∧ PostX K F (pur F cs H) Z fun c d H' => W c d σ H'
structure PostS (K : PySem.W.Frag) (F G : Hp) (W : WX) (f : Fin) (E : Ends) : Prop where
  nx : ∀ H' cs' σ' ρ', Sta K F G cs' H' → RepE K (pur F cs' H') σ' ρ' → f.nx ρ' cs' → E.nx σ' H'
  bk : ∀ H' cs' σ' ρ', Sta K F G cs' H' → RepE K (pur F cs' H') σ' ρ' → f.bk ρ' cs' → E.bk σ' H'
  ct : ∀ H' cs' σ' ρ', Sta K F G cs' H' → RepE K (pur F cs' H') σ' ρ' → f.ct ρ' cs' → E.ct σ' H'
  rt : PostE K F G f.rt E.rt
  ex : ∀ H' cs' σ' ρ' x d, Sta K F G cs' H' → RepE K (pur F cs' H') σ' ρ' → XR K (pur F cs' H') d x.fs → f.ex x ρ' cs' → W (.ref (He.ga K x.cls)) d σ' H'
theorem PostS.le {K : PySem.W.Frag} {F G G' : Hp} {W : WX} {f : Fin} {E : Ends} (h : PostS K F G W f E) (e : Ex G G') : PostS K F G' W f E :=
  ⟨fun H' cs' σ' ρ' s => h.nx H' cs' σ' ρ' (s.from_ e), fun H' cs' σ' ρ' s => h.bk H' cs' σ' ρ' (s.from_ e), fun H' cs' σ' ρ' s => h.ct H' cs' σ' ρ' (s.from_ e), h.rt.le e, fun H' cs' σ' ρ' x d s => h.ex H' cs' σ' ρ' x d (s.from_ e)⟩
def lS (K : PySem.W.Frag) (W : WX) (w : WS) : TS := fun E σ H => ∃ F cs ρ f, Sta K F (pur F cs H) cs H ∧ RepE K (pur F cs H) σ ρ ∧ w f ρ cs ∧ PostS K F (pur F cs H) W f E
abbrev DE (X : Cx) (W : WX) (e : Expr) (w : WE) : Prop := PE X e (lE X.K W w)
abbrev DT (X : Cx) (W : WX) (e : Expr) (w : WT) : Prop := PT X e (lT X.K W w)
abbrev DW (X : Cx) (W : WX) (e : Expr) (w : WT) : Prop := PW X e (lT X.K W w)
abbrev DA (X : Cx) (W : WX) (es : List Expr) (w : WA) : Prop := PA X es (lA X.K W es.length w)
abbrev DS (X : Cx) (W : WX) (st : Stmt) (w : WS) : Prop := PS X st (lS X.K W w)
abbrev DSs (X : Cx) (W : WX) (st : List Stmt) (w : WS) : Prop := PSs X st (lS X.K W w)
theorem PE.imp {X : Cx} {e : Expr} {t t' : TE} (h : PE X e t) (i : ∀ σ H Q, t' σ H Q → t σ H Q) : PE X e t' := ⟨fun pins s σ H Q I q => h.run pins s σ H Q I (i σ H Q q)⟩
theorem PT.imp {X : Cx} {e : Expr} {t t' : TT} (h : PT X e t) (i : ∀ σ H Q, t' σ H Q → t σ H Q) : PT X e t' := ⟨fun pins s σ H Q I q => h.run pins s σ H Q I (i σ H Q q)⟩
theorem PW.imp {X : Cx} {e : Expr} {t t' : TT} (h : PW X e t) (i : ∀ σ H Q, t' σ H Q → t σ H Q) : PW X e t' := ⟨fun wh pins s σ H Q I q => h.run wh pins s σ H Q I (i σ H Q q)⟩
theorem PA.imp {X : Cx} {e : List Expr} {t t' : TA} (h : PA X e t) (i : ∀ σ H Q, t' σ H Q → t σ H Q) : PA X e t' := ⟨fun pos pins s σ H Q I q => h.run pos pins s σ H Q I (i σ H Q q)⟩
theorem PS.imp {X : Cx} {st : Stmt} {t t' : TS} (h : PS X st t) (i : ∀ E σ H, t' E σ H → t E σ H) : PS X st t' := ⟨fun pins s σ H E I q => h.run pins s σ H E I (i E σ H q)⟩
theorem PSs.imp {X : Cx} {st : List Stmt} {t t' : TS} (h : PSs X st t) (i : ∀ E σ H, t' E σ H → t E σ H) : PSs X st t' := ⟨fun pins s σ H E I q => h.run pins s σ H E I (i E σ H q)⟩
end DL
namespace DL
open PySem L2
section
variable {X : Cx} {W : WX} {K : PySem.W.Frag} {σ : St} {H : Hp}
def wVar (i : Nat) : WE := fun ρ cs P _ => match ρ[i]? with
  | some (some d) => P d cs
  | _ => False
theorem d_var (i : Nat) {x : Str} {pos : Pos} (hN : X.N[i]? = some x := by rfl) (hv : Vis X.env.scope x := by first | exact Or.inl rfl | exact Or.inr (Or.inl rfl) | exact Or.inr (Or.inr rfl)) (hd : (x == ("__debug__" : Str)) = false := by decide)
    (hcd : (x == ("__classdict__" : Str)) = false := by decide) : DE X W (.Name x pos) (wVar i) :=
  PE.imp (pe_var (i := i) hN hv hd hcd) fun σ H Q ⟨F, cs, ρ, P, Z, s, re, hw, pe, px⟩ => by
    unfold wVar at hw
    split at hw
    · rename_i d e
      obtain ⟨v, h1, h2⟩ := re.get e
      exact ⟨v, h1, pe H cs v d s h2 hw⟩
    · exact hw.elim
def wC (d : D) : WE := fun _ cs P _ => P d cs
theorem d_of {e : Expr} {v : V} {d : D} (h : PE X e (tC v)) (r : ∀ G, Rep X.K G v d) : DE X W e (wC d) :=
  PE.imp h fun σ H Q ⟨F, cs, ρ, P, Z, s, re, hw, pe, px⟩ => pe H cs v d s (r _) hw
theorem d_int {i j pos} : DE X W (.Constant (.int i) j pos) (wC (.int i)) := d_of pe_int fun _ => .int _
theorem d_bl {b j pos} : DE X W (.Constant (.bool b) j pos) (wC (.bl b)) := d_of pe_bl fun _ => .bl _
theorem d_non {j pos} : DE X W (.Constant .none j pos) (wC .non) := d_of pe_non fun _ => .non
theorem d_str {x j pos} : DE X W (.Constant (.str x) j pos) (wC (.str x)) := d_of pe_str fun _ => .str _
abbrev DO2 := D → D → Cs → DP → Prop
def Adq (K : PySem.W.Frag) (r : R2) (o : DO2) : Prop := ∀ F cs H x y dx dy P Q, Sta K F (pur F cs H) cs H → Rep K (pur F cs H) x dx → Rep K (pur F cs H) y dy → o dx dy cs P → PostE K F (pur F cs H) P Q → r x y H Q
def wOp (o : DO2) (wa wb : WE) : WE := fun ρ cs P Z => wa ρ cs (fun x cs1 => wb ρ cs1 (fun y cs2 => o x y cs2 P) Z) Z
theorem bin_ok {r : R2} {o : DO2} {wa wb : WE} (adq : Adq K r o) {Q : VK} : lE K W (wOp o wa wb) σ H Q → tOp r (lE K W wa) (lE K W wb) σ H Q := by
  rintro ⟨F, cs, ρ, P, Z, s, re, hw, pe, px⟩
  refine ⟨F, cs, ρ, _, Z, s, re, hw, fun H1 cs1 v d s1 r1 h1 => ?_, px⟩
  refine ⟨F, cs1, ρ, _, Z, s1.self, re.mono s1.gr, h1, fun H2 cs2 v2 d2 s2 r2 h2 => ?_, px.le s1.gr⟩
  exact adq F cs2 H2 v v2 d d2 P Q s2.self (r1.mono s2.gr) r2 h2 (pe.le (s1.gr.trans s2.gr))
theorem d_op {op : Operator} {r : R2} {o : DO2} {a b : Expr} {wa wb : WE} {pos : Pos} (ho : OpR X (binaryOp op) r) (adq : Adq X.K r o) (ha : DE X W a wa) (hb : DE X W b wb) : DE X W (.BinOp a op b pos) (wOp o wa wb) :=
  PE.imp (pe_op ho ha hb) fun _ _ _ h => bin_ok adq h
theorem d_cmp {op : CmpOp} {r : R2} {o : DO2} {a b : Expr} {wa wb : WE} {pos : Pos} (ho : OpR X (compareOp op) r) (adq : Adq X.K r o) (ha : DE X W a wa) (hb : DE X W b wb) (hm : behindInMarks op b = false) : DE X W (.Compare a [op] [b] pos) (wOp o wa wb) :=
  PE.imp (pe_cmpR ho ha hb hm) fun _ _ _ h => bin_ok adq h
theorem d_ix {r : R2} {o : DO2} {a b : Expr} {wa wb : WE} {pos : Pos} (ho : IxR X r) (adq : Adq X.K r o) (ha : DE X W a wa) (hb : DE X W b wb) (hs : PlainIx b := by intro _ _; rfl) : DE X W (.Subscript a b pos) (wOp o wa wb) :=
  PE.imp (pe_ix ho ha hb hs) fun _ _ _ h => bin_ok adq h
def oI (g : Int → Int → D) : DO2 := fun x y cs P => match x, y with
  | .int i, .int j => P (g i j) cs
  | _, _ => False
def oIC (C : Int → Int → Prop) (g : Int → Int → D) : DO2 := fun x y cs P => match x, y with
  | .int i, .int j => C i j ∧ P (g i j) cs
  | _, _ => False
theorem adq_I0 {g : Int → Int → V} {g' : Int → Int → D} (h : ∀ i j G, Rep K G (g i j) (g' i j)) : Adq K (rI0 g) (oI g') := fun F cs H x y dx dy P Q s rx ry ho pe => by
  unfold oI at ho
  split at ho
  · cases rx; cases ry; exact ⟨_, _, rfl, rfl, pe H cs _ _ s (h _ _ _) ho⟩
  · exact ho.elim
theorem adq_I {C : Int → Int → Prop} {g : Int → Int → V} {g' : Int → Int → D} (h : ∀ i j G, Rep K G (g i j) (g' i j)) : Adq K (rI C g) (oIC C g') := fun F cs H x y dx dy P Q s rx ry ho pe => by
  unfold oIC at ho
  split at ho
  · cases rx; cases ry; exact ⟨_, _, rfl, rfl, ho.1, pe H cs _ _ s (h _ _ _) ho.2⟩
  · exact ho.elim
theorem op_mulX : OpR X (binaryOp .Mult) (rI IntMulOk fun i j => .int (i * j)) := opI fun _ _ _ _ _ _ _ hc q => PyProof.Rows.mul_int q hc
variable {a b : Expr} {wa wb : WE} {pos : Pos}
def oAdd : DO2 := oI fun i j => .int (i + j)
def oSub : DO2 := oI fun i j => .int (i - j)
def oMul : DO2 := oIC IntMulOk fun i j => .int (i * j)
def oDiv : DO2 := oIC CDivW fun i j => .int (i / j)
def oMod : DO2 := oIC (fun _ j => 0 < j) fun i j => .int (i % j)
def oPow : DO2 := oIC CPow fun i j => .int (i ^ j.toNat)
theorem d_add (ha : DE X W a wa) (hb : DE X W b wb) : DE X W (.BinOp a .Add b pos) (wOp oAdd wa wb) := d_op op_add (adq_I0 fun _ _ _ => .int _) ha hb
theorem d_sub (ha : DE X W a wa) (hb : DE X W b wb) : DE X W (.BinOp a .Sub b pos) (wOp oSub wa wb) := d_op op_sub (adq_I0 fun _ _ _ => .int _) ha hb
theorem d_mul (ha : DE X W a wa) (hb : DE X W b wb) : DE X W (.BinOp a .Mult b pos) (wOp oMul wa wb) := d_op op_mulX (adq_I fun _ _ _ => .int _) ha hb
theorem d_fdiv (ha : DE X W a wa) (hb : DE X W b wb) : DE X W (.BinOp a .FloorDiv b pos) (wOp oDiv wa wb) := d_op op_fdivW (adq_I fun _ _ _ => .int _) ha hb
theorem d_mod (ha : DE X W a wa) (hb : DE X W b wb) : DE X W (.BinOp a .Mod b pos) (wOp oMod wa wb) := d_op op_mod (adq_I fun _ _ _ => .int _) ha hb
theorem d_pow (ha : DE X W a wa) (hb : DE X W b wb) : DE X W (.BinOp a .Pow b pos) (wOp oPow wa wb) := d_op op_pow (adq_I fun _ _ _ => .int _) ha hb
def oLt : DO2 := oI fun i j => .bl (decide (i < j))
def oLe : DO2 := oI fun i j => .bl (decide (i ≤ j))
def oGt : DO2 := oI fun i j => .bl (decide (j < i))
def oGe : DO2 := oI fun i j => .bl (decide (j ≤ i))
theorem d_lt (ha : DE X W a wa) (hb : DE X W b wb) : DE X W (.Compare a [.Lt] [b] pos) (wOp oLt wa wb) := d_cmp op_lt (adq_I0 fun _ _ _ => .bl _) ha hb (nomark _)
def wUn (o : D → Cs → DP → Prop) (wa : WE) : WE := fun ρ cs P Z => wa ρ cs (fun x cs1 => o x cs1 P) Z
def oNeg : D → Cs → DP → Prop := fun x cs P => match x with
  | .int i => P (.int (-i)) cs
  | _ => False
theorem oNeg_inv {x : D} {cs : Cs} {P : DP} (h : oNeg x cs P) : ∃ i, x = .int i ∧ P (.int (-i)) cs := by
  cases x <;> first | exact h.elim | exact ⟨_, rfl, h⟩
theorem d_neg (ha : DE X W a wa) : DE X W (.UnaryOp .USub a pos) (wUn oNeg wa) := PE.imp (pe_un un_neg ha) fun σ H Q ⟨F, cs, ρ, P, Z, s, re, hw, pe, px⟩ =>
  ⟨F, cs, ρ, _, Z, s, re, hw, fun H1 cs1 v d s1 r1 h1 => by
    obtain ⟨i, rfl, h⟩ := oNeg_inv h1
    cases r1
    exact ⟨_, rfl, pe H1 cs1 _ _ s1 (.int _) h⟩, px⟩
mutual
def pyD : D → PyData
  | .bl b => .bool b
  | .int i => .int i
  | .str x => .str x
  | .tup xs => .tuple (pyL xs)
  | .lst xs => .list (pyL xs)
  | .non | .dic _ | .dct _ | .opq _ | .ins _ _ | .xcp _ _ _ _ => .none
def pyL : List D → List PyData
  | [] => []
  | d :: ds => pyD d :: pyL ds
end
mutual
/-- plain data: no dict, nothing opaque, at most n levels of lists and tuples -/
def plD : Nat → D → Bool
  | n + 1, .tup xs => decide (xs.length ≤ 100000) && plL n xs
  | n + 1, .lst xs => decide (xs.length ≤ 100000) && plL n xs
  | _, .non | _, .bl _ | _, .int _ | _, .str _ => true
  | _, _ => false
def plL : Nat → List D → Bool
  | _, [] => true
  | n, d :: ds => plD n d && plL n ds
end
theorem plD_t {n : Nat} {xs : List D} (h : plD (n + 1) (.tup xs) = true) : plL n xs = true := by
  simp only [plD, Bool.and_eq_true] at h; exact h.2
theorem plD_l {n : Nat} {xs : List D} (h : plD (n + 1) (.lst xs) = true) : plL n xs = true := by
  simp only [plD, Bool.and_eq_true] at h; exact h.2
theorem plD_tn {n : Nat} {xs : List D} (h : plD (n + 1) (.tup xs) = true) : xs.length ≤ 100000 := by
  simp only [plD, Bool.and_eq_true, decide_eq_true_eq] at h; exact h.1
theorem plD_ln {n : Nat} {xs : List D} (h : plD (n + 1) (.lst xs) = true) : xs.length ≤ 100000 := by
  simp only [plD, Bool.and_eq_true, decide_eq_true_eq] at h; exact h.1
theorem plD_tI {n : Nat} {xs : List D} (h : plL n xs = true) (hl : xs.length ≤ 100000) : plD (n + 1) (.tup xs) = true := by
  simp only [plD, Bool.and_eq_true, decide_eq_true_eq]; exact ⟨hl, h⟩
theorem plD_lI {n : Nat} {xs : List D} (h : plL n xs = true) (hl : xs.length ≤ 100000) : plD (n + 1) (.lst xs) = true := by
  simp only [plD, Bool.and_eq_true, decide_eq_true_eq]; exact ⟨hl, h⟩
mutual
def eqD : D → D → Bool
  | .non, .non => true
  | .bl a, .bl b => a == b
  | .bl a, .int j => (if a then 1 else 0) == j
  | .int i, .bl b => i == (if b then 1 else 0)
  | .int i, .int j => i == j
  | .str x, .str y => x == y
  | .lst xs, .lst ys => eqL xs ys
  | .tup xs, .tup ys => eqL xs ys
  | _, _ => false
def eqL : List D → List D → Bool
  | [], [] => true
  | x :: xs, y :: ys => eqD x y && eqL xs ys
  | _, _ => false
end
mutual
theorem plD_plain : ∀ (d : D) (n : Nat), plD n d = true → (pyD d).plain = true ∧ (pyD d).depth ≤ n
  | .non, n, _ => ⟨by simp [pyD, PyData.plain], by simp [pyD, PyData.depth]⟩
  | .bl _, n, _ => ⟨by simp [pyD, PyData.plain], by simp [pyD, PyData.depth]⟩
  | .int _, n, _ => ⟨by simp [pyD, PyData.plain], by simp [pyD, PyData.depth]⟩
  | .str _, n, _ => ⟨by simp [pyD, PyData.plain], by simp [pyD, PyData.depth]⟩
  | .tup xs, 0, h => by simp [plD] at h
  | .lst xs, 0, h => by simp [plD] at h
  | .tup xs, n + 1, h => by
    have h' := plL_plain xs n (plD_t h)
    simp only [pyD, PyData.plain, PyData.depth]
    exact ⟨h'.1, Nat.succ_le_succ h'.2⟩
  | .lst xs, n + 1, h => by
    have h' := plL_plain xs n (plD_l h)
    simp only [pyD, PyData.plain, PyData.depth]
    exact ⟨h'.1, Nat.succ_le_succ h'.2⟩
  | .dic _, n, h => by cases n <;> simp [plD] at h
  | .dct _, n, h => by cases n <;> simp [plD] at h
  | .ins _ _, n, h => by cases n <;> simp [plD] at h
  | .xcp _ _ _ _, n, h => by cases n <;> simp [plD] at h
  | .opq _, n, h => by cases n <;> simp [plD] at h
theorem plL_plain : ∀ (ds : List D) (n : Nat), plL n ds = true → PyData.plainAll (pyL ds) = true ∧ PyData.depthAll (pyL ds) ≤ n
  | [], n, _ => ⟨by simp [pyL, PyData.plainAll], by simp [pyL, PyData.depthAll]⟩
  | d :: ds, n, h => by
    simp only [plL, Bool.and_eq_true] at h
    have h1 := plD_plain d n h.1
    have h2 := plL_plain ds n h.2
    simp only [pyL, PyData.plainAll, PyData.depthAll, Bool.and_eq_true]
    exact ⟨⟨h1.1, h2.1⟩, Nat.max_le.mpr ⟨h1.2, h2.2⟩⟩
end
mutual
theorem eqD_eqv : ∀ (d e : D) (n m : Nat), plD n d = true → plD m e = true → PyData.eqv (pyD d) (pyD e) = eqD d e := by
  intro d e n m hd he
  cases d <;> cases e <;> first
    | (simp [pyD, PyData.eqv, eqD]; done)
    | (cases n <;> simp [plD] at hd; done)
    | (cases m <;> simp [plD] at he; done)
    | (cases n with
       | zero => simp [plD] at hd
       | succ n => cases m with
         | zero => simp [plD] at he
         | succ m => simp only [pyD, PyData.eqv, eqD]; exact eqL_eqv _ _ n m (by first | exact plD_t hd | exact plD_l hd) (by first | exact plD_t he | exact plD_l he))
theorem eqL_eqv : ∀ (d e : List D) (n m : Nat), plL n d = true → plL m e = true → PyData.eqvAll (pyL d) (pyL e) = eqL d e
  | [], [], _, _, _, _ => by simp [pyL, PyData.eqvAll, eqL]
  | [], _ :: _, _, _, _, _ => by simp [pyL, PyData.eqvAll, eqL]
  | _ :: _, [], _, _, _, _ => by simp [pyL, PyData.eqvAll, eqL]
  | d :: ds, e :: es, n, m, hd, he => by
    simp only [plL, Bool.and_eq_true] at hd he
    simp only [pyL, PyData.eqvAll, eqL]
    rw [eqD_eqv d e n m hd.1 he.1, eqL_eqv ds es n m hd.2 he.2]
end
mutual
theorem Rep.dp {G : Hp} (e : Ex G H) : ∀ {v : V} {d : D} (n : Nat), Rep K G v d → plD n d = true → Dp K H v (pyD d)
  | _, _, n, .non, _ => .non
  | _, _, n, .bl b, _ => .bl b
  | _, _, n, .int i, _ => .int i
  | _, _, n, .str x, _ => .str x
  | _, _, n, .opq v, h => by cases n <;> simp [plD] at h
  | _, _, 0, .lst h r, p => by simp [plD] at p
  | _, _, 0, .tup h r, p => by simp [plD] at p
  | _, _, n + 1, .lst h r, p => by
    simp only [pyD]
    exact .lst (ex_l e h) (RepL.dp e n r (plD_l p))
  | _, _, n + 1, .tup h r, p => by
    simp only [pyD]
    exact .tup (ex_t e h) (RepL.dp e n r (plD_t p))
  | _, _, n, .dic _ _, h => by cases n <;> simp [plD] at h
  | _, _, n, .dct _ _, h => by cases n <;> simp [plD] at h
  | _, _, n, .ins _ _ _, h => by cases n <;> simp [plD] at h
  | _, _, n, .xcp _ _, h => by cases n <;> simp [plD] at h
theorem RepL.dp {G : Hp} (e : Ex G H) : ∀ {v : List V} {d : List D} (n : Nat), RepL K G v d → plL n d = true → DpAll K H v (pyL d)
  | _, _, _, .nil, _ => by simp only [pyL]; exact .nil
  | _, _, n, .cons h r, p => by
    simp only [plL, Bool.and_eq_true] at p
    simp only [pyL]
    exact .cons (Rep.dp e n h p.1) (RepL.dp e n r p.2)
end
theorem pur_le {F : Hp} {cs : Cs} : Ex (pur F cs H) H := fun _ _ h => (pur_of h).1
/-- x == y of plain data -/
def oEq : DO2 := fun x y cs P => plD 20 x = true ∧ plD 20 y = true ∧ P (.bl (eqD x y)) cs
def oNe : DO2 := fun x y cs P => plD 20 x = true ∧ plD 20 y = true ∧ P (.bl (!eqD x y)) cs
def rEqP (K : PySem.W.Frag) : R2 := fun x y H Q => ∃ d e, Dp K H x d ∧ Dp K H y e ∧ d.plain = true ∧ e.plain = true ∧ d.depth ≤ 64 ∧ Q (.bl (PyData.eqv d e)) H
def rNeP (K : PySem.W.Frag) : R2 := fun x y H Q => ∃ d e, Dp K H x d ∧ Dp K H y e ∧ d.plain = true ∧ e.plain = true ∧ d.depth ≤ 64 ∧ Q (.bl (!PyData.eqv d e)) H
theorem room_plain {A : Around} {da db : PyData} (h : da.depth ≤ 64) (hu : A.units + 64 < cLine) : A.units + min da.depth db.depth < cLine := by
  have h2 : min da.depth db.depth ≤ da.depth := Nat.min_le_left _ _
  omega
theorem op_eqP (hu : X.A.units + 64 < cLine) : OpR X (compareOp .Eq) (rEqP X.K) := by
  intro pins s σ H x y v u Q I rx ry h
  obtain ⟨d, e, hd, he, p1, p2, p3, q⟩ := h
  obtain ⟨as, r1⟩ := Dp.reads I d x v hd rx
  obtain ⟨bs, r2⟩ := Dp.reads I e y u he ry
  exact PySem.SeqAt.eq_plain r1 r2 p1 p2 (room_plain p3 hu) ⟨.bl _, H, I, rfl, q⟩
theorem op_neP (hu : X.A.units + 64 < cLine) : OpR X (compareOp .NotEq) (rNeP X.K) := by
  intro pins s σ H x y v u Q I rx ry h
  obtain ⟨d, e, hd, he, p1, p2, p3, q⟩ := h
  obtain ⟨as, r1⟩ := Dp.reads I d x v hd rx
  obtain ⟨bs, r2⟩ := Dp.reads I e y u he ry
  exact PySem.SeqAt.ne_plain r1 r2 p1 p2 (room_plain p3 hu) ⟨.bl _, H, I, rfl, q⟩
theorem adq_eq : Adq K (rEqP K) oEq := fun F cs H x y dx dy P Q s rx ry ho pe => by
  obtain ⟨p1, p2, h⟩ := ho
  have a1 := plD_plain dx 20 p1
  have a2 := plD_plain dy 20 p2
  refine ⟨_, _, Rep.dp pur_le 20 rx p1, Rep.dp pur_le 20 ry p2, a1.1, a2.1, Nat.le_trans a1.2 (by decide), ?_⟩
  rw [eqD_eqv dx dy 20 20 p1 p2]
  exact pe H cs _ _ s (.bl _) h
theorem adq_ne : Adq K (rNeP K) oNe := fun F cs H x y dx dy P Q s rx ry ho pe => by
  obtain ⟨p1, p2, h⟩ := ho
  have a1 := plD_plain dx 20 p1
  have a2 := plD_plain dy 20 p2
  refine ⟨_, _, Rep.dp pur_le 20 rx p1, Rep.dp pur_le 20 ry p2, a1.1, a2.1, Nat.le_trans a1.2 (by decide), ?_⟩
  rw [eqD_eqv dx dy 20 20 p1 p2]
  exact pe H cs _ _ s (.bl _) h
theorem d_eq (hu : X.A.units + 64 < cLine) (ha : DE X W a wa) (hb : DE X W b wb) : DE X W (.Compare a [.Eq] [b] pos) (wOp oEq wa wb) := d_cmp (op_eqP hu) adq_eq ha hb (nomark _)
def atD (xs : List D) (i : Int) : Option D := atI xs i
def oIx : DO2 := fun x y cs P => match x, y with
  | .tup xs, .int i => (match atD xs i with
    | some d => P d cs
    | none => False)
  | .lst xs, .int i => (match atD xs i with
    | some d => P d cs
    | none => False)
  | _, _ => False
theorem RepL.atI {G : Hp} {vs : List V} {ds : List D} {i : Int} {d : D} (r : RepL K G vs ds) (h : atI ds i = some d) : ∃ v, atI vs i = some v ∧ Rep K G v d := by
  unfold L2.atI at h ⊢
  rw [r.length]
  cases e : ixN ds.length i with
  | none => rw [e] at h; cases h
  | some j =>
    rw [e] at h
    exact r.get h
theorem adq_ix : Adq K (rIx K) oIx := fun F cs H x y dx dy P Q s rx ry ho pe => by
  unfold oIx at ho
  split at ho
  · rename_i xs i
    cases ry
    cases rx with
    | tup h r =>
      split at ho
      · rename_i d e
        obtain ⟨v, e1, e2⟩ := r.atI e
        exact .inr (.inl ⟨_, _, _, v, rfl, rfl, ex_t pur_le h, e1, pe H cs _ _ s e2 ho⟩)
      · exact ho.elim
  · rename_i xs i
    cases ry
    cases rx with
    | lst h r =>
      split at ho
      · rename_i d e
        obtain ⟨v, e1, e2⟩ := r.atI e
        exact .inl ⟨_, _, _, v, rfl, rfl, ex_l pur_le h, e1, pe H cs _ _ s e2 ho⟩
      · exact ho.elim
  · exact ho.elim
theorem d_sub_ix (ha : DE X W a wa) (hb : DE X W b wb) (hs : PlainIx b := by intro _ _; rfl) : DE X W (.Subscript a b pos) (wOp oIx wa wb) := d_ix ix_seq adq_ix ha hb hs
end
end DL
namespace DL
open PySem L2
section
variable {X : Cx} {W : WX} {K : PySem.W.Frag} {σ : St} {H : Hp} {a b c : Expr} {wa wb wc : WE} {pos : Pos}
def wTest (wa : WE) : WT := fun ρ cs P Z => wa ρ cs (fun x cs1 => match x with
  | .bl k => P k cs1
  | _ => False) Z
theorem test_inv {x : D} {cs : Cs} {P : Bool → Cs → Prop} (h : (match x with | D.bl k => P k cs | _ => False)) : ∃ k, x = .bl k ∧ P k cs := by
  cases x <;> first | exact h.elim | exact ⟨_, rfl, h⟩
/-- a comparison as a test -/
theorem dt_cmp {op : CmpOp} {r : R2} {o : DO2} (ho : OpR X (compareOp op) r) (adq : Adq X.K r o) (ha : DE X W a wa) (hb : DE X W b wb) (hm : behindInMarks op b = false) : DT X W (.Compare a [op] [b] pos) (wTest (wOp o wa wb)) :=
  PT.imp (pt_cmpR ho ha hb hm) fun σ H Q h => by
    obtain ⟨F, cs, ρ, P, Z, s, re, hw, pe, px⟩ := h
    have h2 : lE X.K W (wOp o wa wb) σ H (fun x H' => ∃ k, x = V.bl k ∧ Q k H') := ⟨F, cs, ρ, _, Z, s, re, hw, fun H1 cs1 v d s1 r1 h1 => by
      obtain ⟨k, rfl, h⟩ := test_inv h1
      cases r1
      exact ⟨k, rfl, pe H1 cs1 k s1 h⟩, px⟩
    exact bin_ok adq h2
theorem dt_lt (ha : DE X W a wa) (hb : DE X W b wb) : DT X W (.Compare a [.Lt] [b] pos) (wTest (wOp oLt wa wb)) := dt_cmp op_lt (adq_I0 fun _ _ _ => .bl _) ha hb (nomark _)
theorem dt_gt (ha : DE X W a wa) (hb : DE X W b wb) : DT X W (.Compare a [.Gt] [b] pos) (wTest (wOp oGt wa wb)) := dt_cmp op_gt (adq_I0 fun _ _ _ => .bl _) ha hb (nomark _)
theorem dt_ge (ha : DE X W a wa) (hb : DE X W b wb) : DT X W (.Compare a [.GtE] [b] pos) (wTest (wOp oGe wa wb)) := dt_cmp op_ge (adq_I0 fun _ _ _ => .bl _) ha hb (nomark _)
theorem dt_eq (hu : X.A.units + 64 < cLine) (ha : DE X W a wa) (hb : DE X W b wb) : DT X W (.Compare a [.Eq] [b] pos) (wTest (wOp oEq wa wb)) := dt_cmp (op_eqP hu) adq_eq ha hb (nomark _)
theorem dt_ne (hu : X.A.units + 64 < cLine) (ha : DE X W a wa) (hb : DE X W b wb) : DT X W (.Compare a [.NotEq] [b] pos) (wTest (wOp oNe wa wb)) := dt_cmp (op_neP hu) adq_ne ha hb (nomark _)
/-- an expression that gives a truth value, as a test -/
theorem dt_val {e : Expr} {w : WE} (h : DE X W e w) (he : ∀ whole, isTrue e X.env whole = (do let v ← whole; standAt e.pos; holding [v] (truthy v)) := by intro _; rfl) : DT X W e (wTest w) :=
  PT.imp (pt_val h he) fun σ H Q h => by
    obtain ⟨F, cs, ρ, P, Z, s, re, hw, pe, px⟩ := h
    refine ⟨F, cs, ρ, _, Z, s, re, hw, fun H1 cs1 v d s1 r1 h1 => ?_, px⟩
    obtain ⟨k, rfl, h⟩ := test_inv h1
    cases r1
    exact ⟨k, rfl, pe H1 cs1 k s1 h⟩
variable {ta tb : WT} {rest : List Expr}
def wAnd (ta tb : WT) : WT := fun ρ cs P Z => ta ρ cs (fun k cs1 => (k = true → tb ρ cs1 P Z) ∧ (k = false → P false cs1)) Z
def wOr (ta tb : WT) : WT := fun ρ cs P Z => ta ρ cs (fun k cs1 => (k = true → P true cs1) ∧ (k = false → tb ρ cs1 P Z)) Z
def wNot (ta : WT) : WT := fun ρ cs P Z => ta ρ cs (fun k cs1 => P (!k) cs1) Z
theorem dw_and1 (ha : DT X W a ta) : DW X W (.BoolOp .And [a] pos) ta := pw_and1 ha
theorem dw_or1 (ha : DT X W a ta) : DW X W (.BoolOp .Or [a] pos) ta := pw_or1 ha
theorem dw_and (ha : DT X W a ta) (hb : DW X W (.BoolOp .And (b :: rest) pos) tb) : DW X W (.BoolOp .And (a :: b :: rest) pos) (wAnd ta tb) :=
  PW.imp (pw_and ha hb) fun σ H Q h => by
    obtain ⟨F, cs, ρ, P, Z, s, re, hw, pe, px⟩ := h
    refine ⟨F, cs, ρ, _, Z, s, re, hw, fun H1 cs1 k s1 h1 => ?_, px⟩
    cases k with
    | true => exact iteT ⟨F, cs1, ρ, P, Z, s1.self, re.mono s1.gr, h1.1 rfl, fun H2 cs2 k s2 h2 => pe H2 cs2 k (s2.from_ s1.gr) h2, px.le s1.gr⟩
    | false => exact iteF (pe H1 cs1 false s1 (h1.2 rfl))
theorem dw_or (ha : DT X W a ta) (hb : DW X W (.BoolOp .Or (b :: rest) pos) tb) : DW X W (.BoolOp .Or (a :: b :: rest) pos) (wOr ta tb) :=
  PW.imp (pw_or ha hb) fun σ H Q h => by
    obtain ⟨F, cs, ρ, P, Z, s, re, hw, pe, px⟩ := h
    refine ⟨F, cs, ρ, _, Z, s, re, hw, fun H1 cs1 k s1 h1 => ?_, px⟩
    cases k with
    | false => exact iteF ⟨F, cs1, ρ, P, Z, s1.self, re.mono s1.gr, h1.2 rfl, fun H2 cs2 k s2 h2 => pe H2 cs2 k (s2.from_ s1.gr) h2, px.le s1.gr⟩
    | true => exact iteT (pe H1 cs1 true s1 (h1.1 rfl))
theorem dt_w {e : Expr} (h : DW X W e ta) : DT X W e ta := h.pt
theorem dt_not (ha : DT X W a ta) : DT X W (.UnaryOp .Not a pos) (wNot ta) :=
  PT.imp (pt_not ha) fun σ H Q h => by
    obtain ⟨F, cs, ρ, P, Z, s, re, hw, pe, px⟩ := h
    exact ⟨F, cs, ρ, _, Z, s, re, hw, fun H1 cs1 k s1 h1 => pe H1 cs1 _ s1 h1, px⟩
/-- as values -/
def wAndV (wa wb : WE) : WE := fun ρ cs P Z => wa ρ cs (fun x cs1 => match x with
  | .bl k => (k = true → wb ρ cs1 P Z) ∧ (k = false → P (.bl false) cs1)
  | _ => False) Z
def wOrV (wa wb : WE) : WE := fun ρ cs P Z => wa ρ cs (fun x cs1 => match x with
  | .bl k => (k = true → P (.bl true) cs1) ∧ (k = false → wb ρ cs1 P Z)
  | _ => False) Z
def wNotV (wa : WE) : WE := fun ρ cs P Z => wa ρ cs (fun x cs1 => match x with
  | .bl k => P (.bl (!k)) cs1
  | _ => False) Z
theorem d_one {op} (h : DE X W a wa) : DE X W (.BoolOp op [a] pos) wa := pe_one h
theorem d_and (ha : DE X W a wa) (hb : DE X W (.BoolOp .And (b :: rest) pos) wb) : DE X W (.BoolOp .And (a :: b :: rest) pos) (wAndV wa wb) :=
  PE.imp (pe_and ha hb) fun σ H Q h => by
    obtain ⟨F, cs, ρ, P, Z, s, re, hw, pe, px⟩ := h
    refine ⟨F, cs, ρ, _, Z, s, re, hw, fun H1 cs1 v d s1 r1 h1 => ?_, px⟩
    cases d <;> try exact h1.elim
    rename_i k
    cases r1
    cases k with
    | true => exact ⟨true, rfl, iteT ⟨F, cs1, ρ, P, Z, s1.self, re.mono s1.gr, h1.1 rfl, pe.le s1.gr, px.le s1.gr⟩⟩
    | false => exact ⟨false, rfl, iteF (pe H1 cs1 _ _ s1 (.bl _) (h1.2 rfl))⟩
def wIf (t : WT) (wa wb : WE) : WE := fun ρ cs P Z => t ρ cs (fun k cs1 => (k = true → wa ρ cs1 P Z) ∧ (k = false → wb ρ cs1 P Z)) Z
theorem d_if (hc : DT X W c ta) (ha : DE X W a wa) (hb : DE X W b wb) : DE X W (.IfExp c a b pos) (wIf ta wa wb) :=
  PE.imp (pe_ifExp hc ha hb) fun σ H Q h => by
    obtain ⟨F, cs, ρ, P, Z, s, re, hw, pe, px⟩ := h
    refine ⟨F, cs, ρ, _, Z, s, re, hw, fun H1 cs1 k s1 h1 => ?_, px⟩
    cases k with
    | true => exact iteT ⟨F, cs1, ρ, P, Z, s1.self, re.mono s1.gr, h1.1 rfl, pe.le s1.gr, px.le s1.gr⟩
    | false => exact iteF ⟨F, cs1, ρ, P, Z, s1.self, re.mono s1.gr, h1.2 rfl, pe.le s1.gr, px.le s1.gr⟩
variable {e : Expr} {es : List Expr} {we : WE} {w : WA}
def wNil : WA := fun _ cs P _ => P [] cs
def wCons (we : WE) (w : WA) : WA := fun ρ cs P Z => we ρ cs (fun x cs1 => w ρ cs1 (fun xs cs2 => P (x :: xs) cs2) Z) Z
theorem da_nil : DA X W [] wNil := PA.imp pa_nil fun σ H Q ⟨F, cs, ρ, P, Z, s, re, hw, pe, px⟩ => pe H cs [] [] s .nil rfl hw
theorem da_cons (ha : DE X W e we) (hr : DA X W es w) (hs : starEach (e :: es) X.env = (false, eval e X.env) :: starEach es X.env := by rfl) : DA X W (e :: es) (wCons we w) :=
  PA.imp (pa_cons ha hr hs) fun σ H Q h => by
    obtain ⟨F, cs, ρ, P, Z, s, re, hw, pe, px⟩ := h
    refine ⟨F, cs, ρ, _, Z, s, re, hw, fun H1 cs1 v d s1 r1 h1 => ?_, px⟩
    refine ⟨F, cs1, ρ, _, Z, s1.self, re.mono s1.gr, h1, fun H2 cs2 vs ds s2 r2 l2 h2 => ?_, px.le s1.gr⟩
    exact pe H2 cs2 _ _ (s2.from_ s1.gr) (.cons (r1.mono s2.gr) r2) (congrArg Nat.succ l2) h2
def wTup (w : WA) : WE := fun ρ cs P Z => w ρ cs (fun ds cs1 => P (.tup ds) cs1) Z
def wLst (w : WA) : WE := fun ρ cs P Z => w ρ cs (fun ds cs1 => P (.lst ds) cs1) Z
/-- a new list that will change -/
def wLstM (w : WA) : WE := fun ρ cs P Z => w ρ cs (fun ds cs1 => ∀ p, p ∉ adr cs1 → P (.opq (.ref p)) ((p, .lst ds) :: cs1)) Z
theorem small_es {n : Nat} (h : n ≤ 1000) : n ≤ sizeLine := Nat.le_trans h (by decide)
theorem d_tup {x1} (h : DA X W es w) (hn : es.length ≤ 1000 := by decide) : DE X W (.Tuple es x1 pos) (wTup w) :=
  PE.imp (pe_tup h) fun σ H Q h => by
    obtain ⟨F, cs, ρ, P, Z, s, re, hw, pe, px⟩ := h
    refine ⟨F, cs, ρ, _, Z, s, re, hw, fun H1 cs1 vs ds s1 r1 l1 h1 => ⟨by rw [r1.length, l1]; exact small_es hn, fun p hp => ?_⟩, px⟩
    obtain ⟨s2, e2⟩ := s1.new (o := .tup vs) hp
    exact pe _ cs1 _ _ (s2.from_ s1.gr) (.tup (SqT.of e2) (r1.mono s2.gr)) h1
theorem d_lst (h : DA X W es w) (hn : es.length ≤ 1000 := by decide) : DE X W (.List es pos) (wLst w) :=
  PE.imp (pe_lst h) fun σ H Q h => by
    obtain ⟨F, cs, ρ, P, Z, s, re, hw, pe, px⟩ := h
    refine ⟨F, cs, ρ, _, Z, s, re, hw, fun H1 cs1 vs ds s1 r1 l1 h1 => ⟨by rw [r1.length, l1]; exact small_es hn, fun p hp => ?_⟩, px⟩
    obtain ⟨s2, e2⟩ := s1.new (o := .lst vs) hp
    exact pe _ cs1 _ _ (s2.from_ s1.gr) (.lst (SqL.of e2) (r1.mono s2.gr)) h1
theorem d_lstM (h : DA X W es w) (hn : es.length ≤ 1000 := by decide) : DE X W (.List es pos) (wLstM w) :=
  PE.imp (pe_lst h) fun σ H Q h => by
    obtain ⟨F, cs, ρ, P, Z, s, re, hw, pe, px⟩ := h
    refine ⟨F, cs, ρ, _, Z, s, re, hw, fun H1 cs1 vs ds s1 r1 l1 h1 => ⟨by rw [r1.length, l1]; exact small_es hn, fun p hp => ?_⟩, px⟩
    have s2 := s1.newM (m := .lst ds) (o := .lst vs) hp r1
    exact pe _ _ _ _ (s2.from_ s1.gr) (.opq _) (h1 p (s1.notin hp).2)
abbrev DOn := List D → Cs → DP → Prop
def AdqN (K : PySem.W.Frag) (r : List V → Hp → VK → Prop) (o : DOn) : Prop := ∀ F cs H xs ds P Q, Sta K F (pur F cs H) cs H → RepL K (pur F cs H) xs ds → o ds cs P → PostE K F (pur F cs H) P Q → r xs H Q
def wCB (o : DOn) (w : WA) : WE := fun ρ cs P Z => w ρ cs (fun ds cs1 => o ds cs1 P) Z
theorem cb_ok {r : List V → Hp → VK → Prop} {o : DOn} {n : Nat} (adq : AdqN K r o) {Q : VK} : lE K W (wCB o w) σ H Q → tCB r (lA K W n w) σ H Q := by
  rintro ⟨F, cs, ρ, P, Z, s, re, hw, pe, px⟩
  exact ⟨F, cs, ρ, _, Z, s, re, hw, fun H1 cs1 vs ds s1 r1 l1 h1 => adq F cs1 H1 vs ds P Q s1.self r1 h1 (pe.le s1.gr), px⟩
variable {x : Str} {p : Pos} {id T : String} {r : List V → Hp → VK → Prop} {o : DOn}
theorem d_callB (hc : CallR X (.builtin id) r) (adq : AdqN X.K r o) (hg : Gl X x) (hm : X.mg x = none) (hv : bootBuiltins x = some (.builtin id)) (ha : DA X W (e :: es) w) (hn : x ≠ "__name__" := by decide) (hdb : (x == ("__debug__" : Str)) = false := by decide)
    (he : starEach (e :: es) X.env = (false, eval e X.env) :: starEach es X.env := by rfl) (hpl : (backTo pos (starEach es X.env)).any (·.1) = false := by rfl) : DE X W (.Call (.Name x p) (e :: es) [] pos) (wCB o w) :=
  PE.imp (pe_callB hc hg hm hv ha hn hdb he hpl) fun _ _ _ h => cb_ok adq h
theorem d_callTy (hc : CallR X (.type T) r) (adq : AdqN X.K r o) (hg : Gl X x) (hm : X.mg x = none) (hv : bootBuiltins x = some (.type T)) (ha : DA X W (e :: es) w) (hn : x ≠ "__name__" := by decide) (hdb : (x == ("__debug__" : Str)) = false := by decide)
    (he : starEach (e :: es) X.env = (false, eval e X.env) :: starEach es X.env := by rfl) (hpl : (backTo pos (starEach es X.env)).any (·.1) = false := by rfl) : DE X W (.Call (.Name x p) (e :: es) [] pos) (wCB o w) :=
  PE.imp (pe_callTy hc hg hm hv ha hn hdb he hpl) fun _ _ _ h => cb_ok adq h
def oAbs : DOn := fun ds cs P => match ds with
  | [.int i] => P (.int (if i < 0 then -i else i)) cs
  | _ => False
def oLen : DOn := fun ds cs P => match ds with
  | [.lst xs] => P (.int xs.length) cs
  | [.tup xs] => P (.int xs.length) cs
  | _ => False
def oList : DOn := fun ds cs P => match ds with
  | [.lst xs] => P (.lst xs) cs
  | [.tup xs] => P (.lst xs) cs
  | _ => False
theorem adq_abs : AdqN K (fun xs H Q => ∃ i, xs = [.int i] ∧ Q (.int (if i < 0 then -i else i)) H) oAbs := fun F cs H xs ds P Q s r ho pe => by
  unfold oAbs at ho
  split at ho
  · cases r with
    | cons h t => cases h; cases t; exact ⟨_, rfl, pe H cs _ _ s (.int _) ho⟩
  · exact ho.elim
theorem adq_len : AdqN K (fun xs H Q => ∃ p ys, xs = [.ref p] ∧ (SqL K H p ys ∨ SqT K H p ys) ∧ Q (.int ys.length) H) oLen := fun F cs H xs ds P Q s r ho pe => by
  unfold oLen at ho
  split at ho
  · cases r with
    | cons h t =>
      cases t
      cases h with
      | lst h r => exact ⟨_, _, rfl, .inl (ex_l pur_le h), by rw [r.length]; exact pe H cs _ _ s (.int _) ho⟩
  · cases r with
    | cons h t =>
      cases t
      cases h with
      | tup h r => exact ⟨_, _, rfl, .inr (ex_t pur_le h), by rw [r.length]; exact pe H cs _ _ s (.int _) ho⟩
  · exact ho.elim
theorem adq_list : AdqN K (fun xs H Q => ∃ p ys, xs = [.ref p] ∧ (SqL K H p ys ∨ SqT K H p ys) ∧ ∀ l, H l = none → Q (.ref l) (upd H l (.lst ys))) oList := fun F cs H xs ds P Q s r ho pe => by
  have fin : ∀ {ys : List V} {es : List D} {l : Addr}, RepL K (pur F cs H) ys es → H l = none → P (.lst es) cs → Q (.ref l) (upd H l (.lst ys)) := fun {ys es l} hr hl hp => by
    obtain ⟨s2, e2⟩ := s.new (o := .lst ys) hl
    exact pe _ cs _ _ s2 (.lst (SqL.of e2) (hr.mono s2.gr)) hp
  unfold oList at ho
  split at ho
  · cases r with
    | cons h t =>
      cases t
      cases h with
      | lst h r => exact ⟨_, _, rfl, .inl (ex_l pur_le h), fun l hl => fin r hl ho⟩
  · cases r with
    | cons h t =>
      cases t
      cases h with
      | tup h r => exact ⟨_, _, rfl, .inr (ex_t pur_le h), fun l hl => fin r hl ho⟩
  · exact ho.elim
abbrev WO := Env → Cs → (Option Int → Cs → Prop) → XZ → Prop
def lO (K : PySem.W.Frag) (W : WX) (w : WO) : TO := fun σ H Q => ∃ F cs ρ P Z, Sta K F (pur F cs H) cs H ∧ RepE K (pur F cs H) σ ρ ∧ w ρ cs P Z ∧ (∀ H' cs' b, Sta K F (pur F cs H) cs' H' → P b cs' → Q b H') ∧ PostX K F (pur F cs H) Z fun c d H' => W c d σ H'
abbrev DOp (X : Cx) (W : WX) (e : Option Expr) (w : WO) : Prop := PO X e (lO X.K W w)
theorem PO.imp {X : Cx} {e : Option Expr} {t t' : TO} (h : PO X e t) (i : ∀ σ H Q, t' σ H Q → t σ H Q) : PO X e t' := ⟨fun pins s σ H Q I q => h.run pins s σ H Q I (i σ H Q q)⟩
def wNoPart : WO := fun _ cs P _ => P none cs
def wPart (we : WE) : WO := fun ρ cs P Z => we ρ cs (fun x cs1 => match x with
  | .int i => P (some i) cs1
  | _ => False) Z
theorem do_none : DOp X W none wNoPart := PO.imp po_none fun σ H Q ⟨F, cs, ρ, P, Z, s, re, hw, pe, px⟩ => pe H cs none s hw
theorem do_some (h : DE X W e we) : DOp X W (some e) (wPart we) := PO.imp (po_some h) fun σ H Q h => by
  obtain ⟨F, cs, ρ, P, Z, s, re, hw, pe, px⟩ := h
  refine ⟨F, cs, ρ, _, Z, s, re, hw, fun H1 cs1 v d s1 r1 h1 => ?_, px⟩
  cases d <;> try exact h1.elim
  cases r1
  exact ⟨_, rfl, pe H1 cs1 _ s1 h1⟩
def cutD (xs : List D) (lo hi : Option Int) : List D := (xs.drop (HT.sIx xs.length 0 lo)).take (HT.sIx xs.length xs.length hi - HT.sIx xs.length 0 lo)
theorem RepL.cut {G : Hp} {vs : List V} {ds : List D} (r : RepL K G vs ds) (lo hi : Option Int) : RepL K G (cutV vs lo hi) (cutD ds lo hi) := by
  unfold cutV cutD
  rw [r.length]
  exact (r.drop _).take _
def oSlL : D → Option Int → Option Int → Cs → DP → Prop := fun x lo hi cs P => match x with
  | .lst xs => P (.lst (cutD xs lo hi)) cs
  | _ => False
def wSl (o : D → Option Int → Option Int → Cs → DP → Prop) (we : WE) (wl wh : WO) : WE := fun ρ cs P Z => we ρ cs (fun x cs1 => wl ρ cs1 (fun l cs2 => wh ρ cs2 (fun u cs3 => o x l u cs3 P) Z) Z) Z
def AdqS (K : PySem.W.Frag) (r : V → Option Int → Option Int → Hp → VK → Prop) (o : D → Option Int → Option Int → Cs → DP → Prop) : Prop := ∀ F cs H x dx lo hi P Q, Sta K F (pur F cs H) cs H → Rep K (pur F cs H) x dx → o dx lo hi cs P → PostE K F (pur F cs H) P Q → r x lo hi H Q
theorem d_slice {r : V → Option Int → Option Int → Hp → VK → Prop} {o : D → Option Int → Option Int → Cs → DP → Prop} {lo hi : Option Expr} {wl wh : WO} {p2 : Pos} (hr : SlR X r) (adq : AdqS X.K r o) (he : DE X W e we) (hl : DOp X W lo wl) (hu : DOp X W hi wh) :
    DE X W (.Subscript e (.Slice lo hi none p2) pos) (wSl o we wl wh) :=
  PE.imp (pe_slice hr he hl hu) fun σ H Q h => by
    obtain ⟨F, cs, ρ, P, Z, s, re, hw, pe, px⟩ := h
    refine ⟨F, cs, ρ, _, Z, s, re, hw, fun H1 cs1 v d s1 r1 h1 => ?_, px⟩
    refine ⟨F, cs1, ρ, _, Z, s1.self, re.mono s1.gr, h1, fun H2 cs2 l s2 h2 => ?_, px.le s1.gr⟩
    refine ⟨F, cs2, ρ, _, Z, s2.self, re.mono (s1.gr.trans s2.gr), h2, fun H3 cs3 u s3 h3 => ?_, px.le (s1.gr.trans s2.gr)⟩
    exact adq F cs3 H3 v d l u P Q s3.self (r1.mono (s2.gr.trans s3.gr)) h3 (pe.le ((s1.gr.trans s2.gr).trans s3.gr))
theorem adq_slL : AdqS K (rSlL K) oSlL := fun F cs H x dx lo hi P Q s rx ho pe => by
  unfold oSlL at ho
  split at ho
  · cases rx with
    | lst h r =>
      refine ⟨_, _, rfl, ex_l pur_le h, fun p hp => ?_⟩
      obtain ⟨s2, e2⟩ := s.new (o := .lst (cutV _ lo hi)) hp
      exact pe _ cs _ _ s2 (.lst (SqL.of e2) ((r.cut lo hi).mono s2.gr)) ho
  · exact ho.elim
end
end DL
namespace DL
open PySem L2
section
variable {X : Cx} {W : WX} {K : PySem.W.Frag} {σ : St} {H : Hp} {e c : Expr} {we : WE} {wt : WT} {pos : Pos} {st : Stmt} {rest A B : List Stmt} {u v : WS}
def sNext : WS := fun f ρ cs => f.nx ρ cs
def sSeq (u v : WS) : WS := fun f ρ cs => u { f with nx := fun ρ' cs' => v f ρ' cs' } ρ cs
theorem dss_nil : DSs X W [] sNext := PSs.imp pss_nil fun E σ H ⟨F, cs, ρ, f, s, re, hw, pe⟩ => pe.nx H cs σ ρ s re hw
theorem dss_cons (h1 : DS X W st u) (h2 : DSs X W rest v) : DSs X W (st :: rest) (sSeq u v) := PSs.imp (pss_cons h1 h2) fun E σ H h => by
  obtain ⟨F, cs, ρ, f, s, re, hw, pe⟩ := h
  exact ⟨F, cs, ρ, _, s, re, hw, ⟨fun H1 cs1 σ1 ρ1 s1 re1 h1 => ⟨F, cs1, ρ1, f, s1.self, re1, h1, pe.le s1.gr⟩, pe.bk, pe.ct, pe.rt, pe.ex⟩⟩
theorem dss_one (h1 : DS X W st u) : DSs X W [st] u := PSs.imp (pss_one h1) fun E σ H h => h
def sBreak : WS := fun f ρ cs => f.bk ρ cs
def sCont : WS := fun f ρ cs => f.ct ρ cs
theorem PostS.px {F G : Hp} {f : Fin} {E : Ends} {ρ : Env} (pe : PostS K F G W f E) (re : RepE K G σ ρ) : PostX K F G (fun x cs => f.ex x ρ cs) fun c d H' => W c d σ H' :=
  fun H' cs' x d s r h => pe.ex H' cs' σ ρ x d s (re.mono s.gr) r h
def sDrop (we : WE) : WS := fun f ρ cs => we ρ cs (fun _ cs1 => f.nx ρ cs1) (fun x cs1 => f.ex x ρ cs1)
theorem ds_expr (he : DE X W e we) (hs : swapsWith e none pos.line X.env = pure false := by rfl) : DS X W (.Expr e pos) (sDrop we) := PS.imp (ps_expr he hs) fun E σ H h => by
  obtain ⟨F, cs, ρ, f, s, re, hw, pe⟩ := h
  exact ⟨F, cs, ρ, _, _, s, re, hw, fun H1 cs1 v d s1 r1 h1 => pe.nx H1 cs1 σ ρ s1 (re.mono s1.gr) h1, pe.px re⟩
def sRet (we : WE) : WS := fun f ρ cs => we ρ cs f.rt (fun x cs1 => f.ex x ρ cs1)
theorem ds_ret (he : DE X W e we) : DS X W (.Return (some e) pos) (sRet we) := PS.imp (ps_ret he) fun E σ H h => by
  obtain ⟨F, cs, ρ, f, s, re, hw, pe⟩ := h
  exact ⟨F, cs, ρ, _, _, s, re, hw, fun H1 cs1 v d s1 r1 h1 => pe.rt H1 cs1 v d s1 r1 h1, pe.px re⟩
def sRetN : WS := fun f _ cs => f.rt .non cs
def sIf (wt : WT) (u v : WS) : WS := fun f ρ cs => wt ρ cs (fun k cs1 => (k = true → u f ρ cs1) ∧ (k = false → v f ρ cs1)) (fun x cs1 => f.ex x ρ cs1)
theorem ds_if (hc : DT X W c wt) (ha : DSs X W A u) (hb : DSs X W B v) : DS X W (.If c A B pos) (sIf wt u v) := PS.imp (ps_if hc ha hb) fun E σ H h => by
  obtain ⟨F, cs, ρ, f, s, re, hw, pe⟩ := h
  refine ⟨F, cs, ρ, _, _, s, re, hw, fun H1 cs1 k s1 h1 => ?_, pe.px re⟩
  cases k with
  | true => exact iteT ⟨F, cs1, ρ, f, s1.self, re.mono s1.gr, h1.1 rfl, pe.le s1.gr⟩
  | false => exact iteF ⟨F, cs1, ρ, f, s1.self, re.mono s1.gr, h1.2 rfl, pe.le s1.gr⟩
def sNever : WS := fun _ _ _ => False
theorem dss_never {sts : List Stmt} : DSs X W sts sNever := PSs.imp pss_never fun E σ H ⟨F, cs, ρ, f, s, re, hw, pe⟩ => hw
theorem ds_never : DS X W st sNever := PS.imp ps_never fun E σ H ⟨F, cs, ρ, f, s, re, hw, pe⟩ => hw
abbrev WG := D → Env → (Env → Prop) → Prop
abbrev WGs := List D → Env → (Env → Prop) → Prop
def lG (K : PySem.W.Frag) (g : WG) : TG := fun v σ H Q => ∃ F cs ρ d k, Sta K F (pur F cs H) cs H ∧ RepE K (pur F cs H) σ ρ ∧ Rep K (pur F cs H) v d ∧ g d ρ k ∧ ∀ σ' ρ' H', Sta K F (pur F cs H) cs H' → RepE K (pur F cs H') σ' ρ' → k ρ' → Q σ' H'
def lGs (K : PySem.W.Frag) (g : WGs) : TGs := fun v σ H Q => ∃ F cs ρ d k, Sta K F (pur F cs H) cs H ∧ RepE K (pur F cs H) σ ρ ∧ RepL K (pur F cs H) v d ∧ g d ρ k ∧ ∀ σ' ρ' H', Sta K F (pur F cs H) cs H' → RepE K (pur F cs H') σ' ρ' → k ρ' → Q σ' H'
abbrev DG (X : Cx) (tg : Expr) (g : WG) : Prop := PG X tg (lG X.K g)
abbrev DGs (X : Cx) (tg : List Expr) (g : WGs) : Prop := PGs X tg (lGs X.K g)
theorem PG.imp {X : Cx} {e : Expr} {t t' : TG} (h : PG X e t) (i : ∀ v σ H Q, t' v σ H Q → t v σ H Q) : PG X e t' := ⟨fun pins s σ H v u Q I r q => h.run pins s σ H v u Q I r (i v σ H Q q)⟩
theorem PGs.imp {X : Cx} {e : List Expr} {t t' : TGs} (h : PGs X e t) (i : ∀ v σ H Q, t' v σ H Q → t v σ H Q) : PGs X e t' := ⟨fun pins s σ H v u Q I r q => h.run pins s σ H v u Q I r (i v σ H Q q)⟩
def gN (i : Nat) : WG := fun d ρ k => k (ρ.set i (some d))
theorem dg_name {i : Nat} {x : Str} (hN : X.N.Nodup) (hi : X.N[i]? = some x) (hx : Loc X.env.scope x) (hf : X.fn x = true ∨ X.env.scope.names.lookup x = some .local := by first | exact .inl rfl | exact .inr rfl | assumption) : DG X (.Name x pos) (gN i) :=
  PG.imp (pg_name hN hi hx hf) fun v σ H Q ⟨F, cs, ρ, d, k, s, re, r, hw, q⟩ => q _ _ H s (re.set r i) hw
def gNl : WGs := fun ds ρ k => match ds with
  | [] => k ρ
  | _ => False
def gCn (g : WG) (gs : WGs) : WGs := fun ds ρ k => match ds with
  | d :: r => g d ρ fun ρ' => gs r ρ' k
  | [] => False
theorem dgs_nil : DGs X [] gNl := PGs.imp pgs_nil fun v σ H Q h => by
  obtain ⟨F, cs, ρ, d, k, s, re, r, hw, q⟩ := h
  cases r with
  | nil => exact ⟨rfl, q σ ρ H s re hw⟩
  | cons _ _ => exact hw.elim
theorem dgs_cons {es : List Expr} {g : WG} {gs : WGs} (h1 : DG X e g) (h2 : DGs X es gs) (hs : (assignEach (e :: es) X.env).map (·.2) = assign e X.env :: (assignEach es X.env).map (·.2) := by rfl) : DGs X (e :: es) (gCn g gs) := PGs.imp (pgs_cons h1 h2 hs) fun v σ H Q h => by
  obtain ⟨F, cs, ρ, d, k, s, re, r, hw, q⟩ := h
  cases r with
  | nil => exact hw.elim
  | cons r1 r2 => exact ⟨_, _, rfl, F, cs, ρ, _, _, s, re, r1, hw, fun σ1 ρ1 H1 s1 re1 h1 => ⟨F, cs, ρ1, _, k, s1.self, re1, r2.mono s1.gr, h1, fun σ2 ρ2 H2 s2 re2 h2 => q σ2 ρ2 H2 (s2.from_ s1.gr) re2 h2⟩⟩
/-- (a, b, ..) = a tuple of that length -/
def gT (n : Nat) (gs : WGs) : WG := fun d ρ k => match d with
  | .tup ds => ds.length = n ∧ gs ds ρ k
  | _ => False
theorem dg_tup {es : List Expr} {kk : Nat} {gs : WGs} {n : Nat} (hc : X.calm = true) (h : DGs X es gs) (hn : (assignEach es X.env).length = n := by rfl) (hst : (assignEach es X.env).findIdx? (·.1) = none := by rfl) : DG X (.Tuple es kk pos) (gT n gs) :=
  PG.imp (pg_tup hc h hn hst) fun v σ H Q hq => by
    obtain ⟨F, cs, ρ, d, k, s, re, r, hw, q⟩ := hq
    cases d <;> try exact hw.elim
    cases r with
    | tup h r => exact ⟨_, _, rfl, ex_t pur_le h, by rw [r.length]; exact hw.1, F, cs, ρ, _, k, s, re, r, hw.2, q⟩
def sAsg (we : WE) (g : WG) : WS := fun f ρ cs => we ρ cs (fun d cs1 => g d ρ fun ρ' => f.nx ρ' cs1) (fun x cs1 => f.ex x ρ cs1)
theorem asg_ok {g : WG} {E : Ends} : lS K W (sAsg we g) E σ H → tAsg (lE K W we) (lG K g) E σ H := by
  rintro ⟨F, cs, ρ, f, s, re, hw, pe⟩
  exact ⟨F, cs, ρ, _, _, s, re, hw, fun H1 cs1 v d s1 r1 h1 => ⟨F, cs1, ρ, d, _, s1.self, re.mono s1.gr, r1, h1, fun σ2 ρ2 H2 s2 re2 h2 => pe.nx H2 cs1 σ2 ρ2 (s2.from_ s1.gr) re2 h2⟩, pe.px re⟩
theorem asgN_ok {i : Nat} {E : Ends} : lS K W (sAsg we (gN i)) E σ H → tAsg (lE K W we) (gName i) E σ H := by
  rintro ⟨F, cs, ρ, f, s, re, hw, pe⟩
  exact ⟨F, cs, ρ, _, _, s, re, hw, fun H1 cs1 v d s1 r1 h1 => pe.nx H1 cs1 _ _ s1 ((re.mono s1.gr).set r1 i) h1, pe.px re⟩
theorem ds_set {i : Nat} {x : Str} {pos' : Pos} (hN : X.N.Nodup) (hi : X.N[i]? = some x) (hx : Loc X.env.scope x) (he : DE X W e we) (hs : swapsWith e (some (.Name x pos')) pos.line X.env = pure false := by rfl)
    (hf : X.fn x = true ∨ X.env.scope.names.lookup x = some .local := by first | exact .inl rfl | exact .inr rfl | assumption) : DS X W (.Assign [.Name x pos'] e pos) (sAsg we (gN i)) :=
  PS.imp (ps_set (i := i) hN hi hx he hs hf) fun _ _ _ h => asgN_ok h
theorem ds_asg {tg : Expr} {g : WG} (he : DE X W e we) (hg : DG X tg g) (hs : swapsWithSole [tg] e pos.line X.env = pure false := by rfl) (hw : swappedStores [tg] e X.env = pure none := by rfl)
    (h1 : (assignEach [tg] X.env).map (·.2) = [assign tg X.env] := by rfl) : DS X W (.Assign [tg] e pos) (sAsg we g) := PS.imp (ps_asg he hg hs hw h1) fun _ _ _ h => asg_ok h
def sPar (i j : Nat) (w : WA) : WS := fun f ρ cs => w ρ cs (fun ds cs1 => match ds with
  | [x, y] => f.nx ((ρ.set i (some x)).set j (some y)) cs1
  | _ => False) (fun x cs1 => f.ex x ρ cs1)
theorem par_inv {ds : List D} {g : D → D → Prop} (h : (match ds with | [x, y] => g x y | _ => False)) : ∃ x y, ds = [x, y] ∧ g x y := by
  match ds, h with
  | [x, y], h => exact ⟨x, y, rfl, h⟩
theorem ds_par {i j : Nat} {x y : Str} {a b : Expr} {w : WA} {px py pt : Pos} {kt k2 pt2} (hc : X.calm = true) (hN : X.N.Nodup) (hi : X.N[i]? = some x) (hj : X.N[j]? = some y) (hij : i ≠ j)
    (hx : X.env.scope.names.lookup x = some .local) (hy : X.env.scope.names.lookup y = some .local) (ha : DA X W [a, b] w)
    (hw : swappedStores [.Tuple [.Name x px, .Name y py] kt pt] (.Tuple [a, b] k2 pt2) X.env = pure (some [x, y]) := by rfl)
    (hs : swapsWithSole [.Tuple [.Name x px, .Name y py] kt pt] (.Tuple [a, b] k2 pt2) pos.line X.env = pure false := by rfl) :
    DS X W (.Assign [.Tuple [.Name x px, .Name y py] kt pt] (.Tuple [a, b] k2 pt2) pos) (sPar i j w) := PS.imp (ps_par hc hN hi hj hij hx hy ha hw hs) fun E σ H h => by
  obtain ⟨F, cs, ρ, f, s, re, hw, pe⟩ := h
  refine ⟨F, cs, ρ, _, _, s, re, hw, fun H1 cs1 vs ds s1 r1 l1 h1 => ?_, pe.px re⟩
  obtain ⟨dx, dy, rfl, h⟩ := par_inv h1
  cases r1 with
  | cons r1 r2 =>
    cases r2 with
    | cons r2 r3 =>
      cases r3
      exact ⟨_, _, rfl, pe.nx H1 cs1 _ _ s1 (((re.mono s1.gr).set r1 i).set r2 j) h⟩
/-- name op= e of ints -/
def sAug (i : Nat) (o : DO2) (we : WE) : WS := fun f ρ cs => match ρ[i]? with
  | some (some x) => we ρ cs (fun y cs1 => o x y cs1 fun z cs2 => f.nx (ρ.set i (some z)) cs2) (fun x cs1 => f.ex x ρ cs1)
  | _ => False
/-- I: by a number that falls -/
def sWhile (wt : WT) (wb : WS) : WS := fun f ρ cs => ∃ I : Nat → Env → Cs → Prop, (∃ m, I m ρ cs) ∧ ∀ m ρ cs, I m ρ cs →
  wt ρ cs (fun k cs1 => (k = true → wb { f with nx := fun ρ' cs' => ∃ m', m' < m ∧ I m' ρ' cs', ct := fun ρ' cs' => ∃ m', m' < m ∧ I m' ρ' cs', bk := f.nx } ρ cs1) ∧ (k = false → f.nx ρ cs1)) (fun x cs1 => f.ex x ρ cs1)
theorem ds_while {body : List Stmt} {wb : WS} (hp : PassesOwn (model X.prog X.w) X.A X.env X.xe) (hc : DT X W c wt) (hb : DSs X W body wb) : DS X W (.While c body [] pos) (sWhile wt wb) := PS.imp (ps_while hp hc hb) fun E σ H h => by
  obtain ⟨F, cs, ρ, f, s, re, ⟨I, ⟨m0, i0⟩, turn⟩, pe⟩ := h
  refine ⟨fun m σ' H' => ∃ cs' ρ', Sta X.K F (pur F cs H) cs' H' ∧ RepE X.K (pur F cs' H') σ' ρ' ∧ I m ρ' cs', ⟨m0, cs, ρ, s, re, i0⟩, fun m σ1 H1 ⟨cs1, ρ1, s1, re1, i1⟩ => ?_⟩
  refine ⟨F, cs1, ρ1, _, _, s1.self, re1, turn m ρ1 cs1 i1, fun H2 cs2 k s2 h2 => ?_, (pe.le s1.gr).px re1⟩
  cases k with
  | true =>
    refine iteT ⟨fun σ' H' => ∃ m', m' < m ∧ ∃ cs' ρ', Sta X.K F (pur F cs H) cs' H' ∧ RepE X.K (pur F cs' H') σ' ρ' ∧ I m' ρ' cs', fun σ' H' ⟨m', hm, z⟩ => ⟨m', hm, z⟩, ?_⟩
    have pe2 := pe.le (s1.gr.trans s2.gr)
    exact ⟨F, cs2, ρ1, _, s2.self, re1.mono s2.gr, h2.1 rfl, ⟨fun H3 cs3 σ3 ρ3 s3 re3 ⟨m', hm, z⟩ => ⟨m', hm, cs3, ρ3, s3.from_ (s1.gr.trans s2.gr), re3, z⟩, fun H3 cs3 σ3 ρ3 s3 re3 z => pe2.nx H3 cs3 σ3 ρ3 s3 re3 z,
      fun H3 cs3 σ3 ρ3 s3 re3 ⟨m', hm, z⟩ => ⟨m', hm, cs3, ρ3, s3.from_ (s1.gr.trans s2.gr), re3, z⟩, pe2.rt, pe2.ex⟩⟩
  | false => exact iteF (pe.nx H2 cs2 σ1 ρ1 (s2.from_ s1.gr) (re1.mono s2.gr) (h2.2 rfl))
/-- J yields xs as long as the data stand -/
structure YI (K : PySem.W.Frag) (J : It) (G : Hp) (xs : List D) : Prop where
  go : ∀ i d, xs[i]? = some d → ∀ F cs H, Sta K F G cs H → J.go i H
  yld : ∀ i d, xs[i]? = some d → ∀ F cs H x H', Sta K F G cs H → J.yld i H x H' → Sta K F (pur F cs H) cs H' ∧ Rep K (pur F cs H') x d
  stop : ∀ F cs H, Sta K F G cs H → J.stop xs.length H
abbrev WI := Env → Cs → (List D → Cs → Prop) → XZ → Prop
def lI (K : PySem.W.Frag) (W : WX) (w : WI) : TI := fun σ H R => ∃ F cs ρ P Z, Sta K F (pur F cs H) cs H ∧ RepE K (pur F cs H) σ ρ ∧ w ρ cs P Z ∧ (∀ H' cs' J xs, Sta K F (pur F cs H) cs' H' → YI K J (pur F cs' H') xs → P xs cs' → R J H') ∧ PostX K F (pur F cs H) Z fun c d H' => W c d σ H'
abbrev DI (X : Cx) (W : WX) (tg it : Expr) (w : WI) : Prop := PI X tg it (lI X.K W w)
theorem PI.imp {X : Cx} {tg e : Expr} {t t' : TI} (h : PI X tg e t) (i : ∀ σ H Q, t' σ H Q → t σ H Q) : PI X tg e t' := ⟨fun pins s σ H Q I q => h.run pins s σ H Q I (i σ H Q q)⟩
def loopW (g : WG) (wb : WS) (f : Fin) : List D → Env → Cs → Prop
  | [], ρ, cs => f.nx ρ cs
  | d :: r, ρ, cs => g d ρ fun ρ1 => wb { f with nx := fun ρ' cs' => loopW g wb f r ρ' cs', ct := fun ρ' cs' => loopW g wb f r ρ' cs', bk := f.nx } ρ1 cs
def sFor (wi : WI) (g : WG) (wb : WS) : WS := fun f ρ cs => wi ρ cs (fun xs cs1 => loopW g wb f xs ρ cs1) (fun x cs1 => f.ex x ρ cs1)
theorem drop_cons {α : Type} {xs : List α} {i : Nat} {d : α} {r : List α} (h : xs.drop i = d :: r) : xs[i]? = some d ∧ xs.drop (i + 1) = r := by
  refine ⟨?_, ?_⟩
  · have e : (xs.drop i)[0]? = some d := by rw [h] <;> rfl
    rw [List.getElem?_drop] at e
    simpa using e
  · have e : (xs.drop i).drop 1 = r := by rw [h] <;> rfl
    rw [List.drop_drop] at e
    exact e
theorem ds_for {tg iter : Expr} {body : List Stmt} {wi : WI} {g : WG} {wb : WS} (hp : PassesOwn (model X.prog X.w) X.A X.env X.xe) (hc : X.calm = true) (hi : DI X W tg iter wi) (hg : DG X tg g) (hb : DSs X W body wb)
    (hs : ∀ x, foldedSetIterable iter X.env x = pure x := by intro _; rfl) : DS X W (.For tg iter body [] pos) (sFor wi g wb) := PS.imp (ps_for hp hc hi hg hb hs) fun E σ H h => by
  obtain ⟨F, cs, ρ, f, s, re, hw, pe⟩ := h
  refine ⟨F, cs, ρ, _, _, s, re, hw, fun H1 cs1 J xs s1 yi h1 => ?_, pe.px re⟩
  refine ⟨fun i m σ' H' => i ≤ xs.length ∧ m = xs.length - i ∧ ∃ cs' ρ', Sta X.K F (pur F cs1 H1) cs' H' ∧ RepE X.K (pur F cs' H') σ' ρ' ∧ loopW g wb f (xs.drop i) ρ' cs', ⟨xs.length, Nat.zero_le _, rfl, cs1, ρ, s1.self, re.mono s1.gr, h1⟩, ?_⟩
  rintro i m σ2 H2 ⟨hi, rfl, cs2, ρ2, s2, re2, h2⟩
  cases e : xs.drop i with
  | nil =>
    have hl : xs.length ≤ i := by
      have z := congrArg List.length e
      rw [List.length_drop] at z
      have z' : xs.length - i = 0 := z
      omega
    have hie : i = xs.length := by omega
    rw [e] at h2
    refine .inl ⟨?_, pe.nx H2 cs2 σ2 ρ2 (s2.from_ s1.gr) re2 h2⟩
    rw [hie]
    exact yi.stop F cs2 H2 s2
  | cons d r =>
    obtain ⟨e1, e2⟩ := drop_cons e
    have hlt : i < xs.length := (List.getElem?_eq_some_iff.mp e1).1
    rw [e] at h2
    refine .inr ⟨yi.go i d e1 F cs2 H2 s2, fun σ' H' => ∃ cs' ρ', Sta X.K F (pur F cs1 H1) cs' H' ∧ RepE X.K (pur F cs' H') σ' ρ' ∧ loopW g wb f r ρ' cs', ?_, ?_⟩
    · rintro σ' H' ⟨cs', ρ', s', re', h'⟩
      exact ⟨xs.length - (i + 1), by omega, by omega, rfl, cs', ρ', s', re', by rw [e2]; exact h'⟩
    · intro x H3 hy
      obtain ⟨s3, r3⟩ := yi.yld i d e1 F cs2 H2 x H3 s2 hy
      have g3 := s2.gr.trans s3.gr
      have pe3 := pe.le (s1.gr.trans g3)
      refine ⟨F, cs2, ρ2, d, _, s3.self, re2.mono s3.gr, r3, h2, fun σ4 ρ4 H4 s4 re4 h4 => ?_⟩
      have g4 := g3.trans s4.gr
      have pe4 := pe.le (s1.gr.trans g4)
      exact ⟨F, cs2, ρ4, _, s4.self, re4, h4, ⟨fun H5 cs5 σ5 ρ5 s5 re5 h5 => ⟨cs5, ρ5, s5.from_ g4, re5, h5⟩, fun H5 cs5 σ5 ρ5 s5 re5 h5 => pe4.nx H5 cs5 σ5 ρ5 s5 re5 h5,
        fun H5 cs5 σ5 ρ5 s5 re5 h5 => ⟨cs5, ρ5, s5.from_ g4, re5, h5⟩, pe4.rt, pe4.ex⟩⟩
def iSeq (we : WE) : WI := fun ρ cs P Z => we ρ cs (fun d cs1 => match d with
  | .lst xs => P xs cs1
  | _ => False) Z
def iTupD (we : WE) : WI := fun ρ cs P Z => we ρ cs (fun d cs1 => match d with
  | .tup xs => P xs cs1
  | _ => False) Z
theorem yi_list {G : Hp} {a : Addr} {xs : List V} {ds : List D} (h : SqL K G a xs) (r : RepL K G xs ds) : YI K (Itl K a) G ds where
  go := fun i d e F cs H s => by
    obtain ⟨v, e1, _⟩ := r.get e
    exact ⟨xs, v, ex_l (s.gr.trans pur_le) h, e1⟩
  yld := fun i d e F cs H x H' s hy => by
    obtain ⟨e1, e2⟩ := hy
    obtain ⟨v, e3, rv⟩ := r.get e
    have e4 := e2 xs (ex_l (s.gr.trans pur_le) h)
    rw [e3] at e4
    cases e4
    subst e1
    exact ⟨s.self, rv.mono s.gr⟩
  stop := fun F cs H s => ⟨xs, ex_l (s.gr.trans pur_le) h, by rw [r.length]; exact Nat.le_refl _⟩
theorem yi_tup {G : Hp} {a : Addr} {xs : List V} {ds : List D} (h : SqT K G a xs) (r : RepL K G xs ds) : YI K (Itt K a) G ds where
  go := fun i d e F cs H s => by
    obtain ⟨v, e1, _⟩ := r.get e
    exact ⟨xs, v, ex_t (s.gr.trans pur_le) h, e1⟩
  yld := fun i d e F cs H x H' s hy => by
    obtain ⟨e1, e2⟩ := hy
    obtain ⟨v, e3, rv⟩ := r.get e
    have e4 := e2 xs (ex_t (s.gr.trans pur_le) h)
    rw [e3] at e4
    cases e4
    subst e1
    exact ⟨s.self, rv.mono s.gr⟩
  stop := fun F cs H s => ⟨xs, ex_t (s.gr.trans pur_le) h, by rw [r.length]; exact Nat.le_refl _⟩
theorem di_list {tg : Expr} (h : DE X W e we) : DI X W tg e (iSeq we) := PI.imp (pi_list h) fun σ H R hq => by
  obtain ⟨F, cs, ρ, P, Z, s, re, hw, pe, px⟩ := hq
  refine ⟨F, cs, ρ, _, Z, s, re, hw, fun H1 cs1 v d s1 r1 h1 => ?_, px⟩
  cases d <;> try exact h1.elim
  cases r1 with
  | lst h r => exact ⟨_, rfl, ⟨_, ex_l pur_le h⟩, pe H1 cs1 _ _ s1 (yi_list h r) h1⟩
def rngD (lo : Int) (n : Nat) : List D := (List.range n).map fun (i : Nat) => D.int (lo + (i : Int))
theorem yi_range (G : Hp) (lo : Int) (n : Nat) : YI K (Itr lo n) G (rngD lo n) where
  go := fun i d e F cs H s => by
    have z := (List.getElem?_eq_some_iff.mp e).1
    have z2 : i < n := by simpa [rngD] using z
    exact z2
  yld := fun i d e F cs H x H' s hy => by
    obtain ⟨e1, e2⟩ := hy
    subst e1 e2
    obtain ⟨hi, e3⟩ := List.getElem?_eq_some_iff.mp e
    simp [rngD] at e3
    rw [← e3]
    exact ⟨s.self, .int _⟩
  stop := fun F cs H s => by
    have z : n ≤ (rngD lo n).length := by simp [rngD]
    exact z
def iRg1 (w : WA) : WI := fun ρ cs P Z => w ρ cs (fun ds cs1 => match ds with
  | [.int j] => (-(2 ^ 62) ≤ j ∧ j < 2 ^ 62) ∧ P (rngD 0 j.toNat) cs1
  | _ => False) Z
def iRg2 (w : WA) : WI := fun ρ cs P Z => w ρ cs (fun ds cs1 => match ds with
  | [.int i, .int j] => (-(2 ^ 62) ≤ i ∧ i < 2 ^ 62 ∧ -(2 ^ 62) ≤ j ∧ j < 2 ^ 62) ∧ P (rngD i (j - i).toNat) cs1
  | _ => False) Z
theorem int1_inv {ds : List D} {g : Int → Prop} (h : (match ds with | [D.int j] => g j | _ => False)) : ∃ j, ds = [.int j] ∧ g j := by
  match ds, h with
  | [D.int j], h => exact ⟨j, rfl, h⟩
theorem di_range1 {tg a : Expr} {w : WA} {p : Pos} (hg : Gl X "range") (hm : X.mg "range" = none) (ha : DA X W [a] w) (hs : starEach [a] X.env = [(false, eval a X.env)] := by rfl) : DI X W tg (.Call (.Name "range" p) [a] [] pos) (iRg1 w) :=
  PI.imp (pi_range1 hg hm ha hs) fun σ H R hq => by
    obtain ⟨F, cs, ρ, P, Z, s, re, hw, pe, px⟩ := hq
    refine ⟨F, cs, ρ, _, Z, s, re, hw, fun H1 cs1 vs ds s1 r1 l1 h1 => ?_, px⟩
    obtain ⟨j, rfl, ⟨h2, h3⟩, h⟩ := int1_inv h1
    cases r1 with
    | cons r1 r2 => cases r1; cases r2; exact ⟨j, rfl, h2, h3, pe H1 cs1 _ _ s1 (yi_range _ 0 _) h⟩
end
end DL
namespace DL
open PySem PySem.Spec PyProof.Rows L2
abbrev DSp := List D → Cs → DP → XZ → Prop
def spL (K : PySem.W.Frag) (n : Nat) (sp : DSp) : Sp := fun vs H Q E => ∃ F cs ds P Z, Sta K F (pur F cs H) cs H ∧ RepL K (pur F cs H) vs ds ∧ ds.length = n ∧ sp ds cs P Z ∧ PostE K F (pur F cs H) P Q ∧ PostX K F (pur F cs H) Z E
theorem spL_len {K : PySem.W.Frag} {n : Nat} {sp : DSp} : ∀ vs H Q E, spL K n sp vs H Q E → vs.length = n := fun vs H Q E ⟨F, cs, ds, P, Z, s, r, l, _⟩ => r.length.trans l
section
variable {X : Cx} {W : WX} {K : PySem.W.Frag} {σ : L2.St} {H : Hp} {CX : CXT} {k n : Nat} {f : Addr} {fd : FuncData} {ps : List Str} {sp : DSp} {x : Str} {p pos : Pos} {e : Expr} {es : List Expr} {w : WA} {dvs : List V} {dds : List D} {ds : List Value}
def wCall (sp : DSp) (dds : List D) (w : WA) : WE := fun ρ cs P Z => w ρ cs (fun ds cs1 => sp (ds ++ dds) cs1 P Z) Z
theorem RepL.const {dvs : List V} {dds : List D} (h : ∀ G, RepL K G dvs dds) {G : Hp} {vs : List V} {ds : List D} (r : RepL K G vs ds) : RepL K G (vs ++ dvs) (ds ++ dds) := r.append (h G)
theorem call_ok {m : Nat} (hd : ∀ G, RepL K G dvs dds) (hn : m + dds.length = n) {Q : VK} : lE K W (wCall sp dds w) σ H Q → tCallSD (spL K n sp) dvs (L2.WE W) (lA K W m w) σ H Q := by
  rintro ⟨F, cs, ρ, P, Z, s, re, hw, pe, px⟩
  refine ⟨F, cs, ρ, _, Z, s, re, hw, fun H1 cs1 vs ds s1 r1 l1 h1 => ?_, px⟩
  exact ⟨F, cs1, _, P, Z, s1.self, RepL.const hd r1, by rw [List.length_append, l1]; exact hn, h1, pe.le s1.gr, px.le s1.gr⟩
/-- f(e, ..), the defaults dds behind -/
theorem d_call (F : FnOk X.prog X.w X.K X.mg X.base (L2.CX X.prog X.w) k f fd ps (spL X.K n sp)) (hr : Room k X.A) (hg : Gl X x) (hm : X.mg x = some (.ref f)) (hk : PySem.W.keepIn X.K (.ref f) = true) (hb : Binds X.K fd ps ds) (hd : Vals dvs ds) (hdd : ∀ G, RepL X.K G dvs dds) (tk : Takes X W)
    (ha : DA X W (e :: es) w) (hn : (e :: es).length + dds.length = n := by rfl) (hdb : (x == ("__debug__" : Str)) = false := by decide) (he : starEach (e :: es) X.env = (false, eval e X.env) :: starEach es X.env := by rfl) (hpl : (backTo pos (starEach es X.env)).any (·.1) = false := by rfl) :
    DE X W (.Call (.Name x p) (e :: es) [] pos) (wCall sp dds w) :=
  PE.imp (pe_callSD (E := L2.WE W) F hr hg hm hk hb hd (fun σ => passAt tk σ) ha hdb he hpl) fun _ _ _ h => call_ok hdd hn h
theorem d_callN (F : FnOk X.prog X.w X.K X.mg X.base (L2.CX X.prog X.w) k f fd ps (spL X.K n sp)) (hr : Room k X.A) (hg : Gl X x) (hm : X.mg x = some (.ref f)) (hk : PySem.W.keepIn X.K (.ref f) = true) (hb : Binds X.K fd ps []) (tk : Takes X W)
    (ha : DA X W (e :: es) w) (hn : (e :: es).length = n := by rfl) (hdb : (x == ("__debug__" : Str)) = false := by decide) (he : starEach (e :: es) X.env = (false, eval e X.env) :: starEach es X.env := by rfl) (hpl : (backTo pos (starEach es X.env)).any (·.1) = false := by rfl) :
    DE X W (.Call (.Name x p) (e :: es) [] pos) (wCall sp [] w) := d_call (dds := []) F hr hg hm hk hb .nil (fun _ => .nil) tk ha hn hdb he hpl
end
section
variable {P : Program} {w : World} {K : PySem.W.Frag} {mg : Str → Option Value} {base : Heap} {x qual : Str} {params : Arguments} {body : List Stmt} {scope : Scope} {dvs : List V} {kws : List (Str × V)} {f : Addr} {fd : FuncData}
def startD (N : List Str) (ds : List D) : Env := ds.map some ++ List.replicate (N.length - ds.length) none
/-- the end of a body -/
abbrev finD (P : DP) (Z : XZ) : Fin := { nx := fun _ cs => P .non cs, rt := P, ex := fun x _ cs => Z x cs }
abbrev cxD (P : Program) (w : World) (K : PySem.W.Frag) (mg : Str → Option Value) (base : Heap) (N : List Str) (qual : Str) (scope : Scope) (f : Addr) (cdv : Value) (A : Around) (outer : List PySem.Env) (s : Shared) (H : Hp) (E : XK) : Cx :=
  cxOf (L2.CX P w) P w K mg base N qual scope f cdv A outer s H E
theorem ok_def {N ps : List Str} {k : Nat} {sp : DSp} (F : FunD K x qual params body scope dvs kws f fd) (S : FnScope N ps scope) {u : WS}
    (hb : ∀ (cdv : Value) (A : Around) (outer : List PySem.Env) (s : Shared) (H : Hp) (E : XK), Room k (A.deeper (envOfC qual scope s.heap.objs.size f cdv)) → DSs (cxD P w K mg base N qual scope f cdv A outer s H E) (fun cls d _ H => E cls d H) body u)
    (hsp : ∀ ds cs Q Z, sp ds cs Q Z → ds.length = ps.length → u (finD Q Z) (startD N ds) cs) : FnOk P w K mg base (L2.CX P w) (k + 1) f fd ps (spL K ps.length sp) := by
  refine F.ok S spL_len fun cdv A outer s H vs Q E hr h => ?_
  obtain ⟨F, cs, ds, Pd, Z, st, r, l, hs, pe, px⟩ := h
  refine ⟨_, hb cdv A outer s H E hr, F, cs, startD N ds, finD Pd Z, st, ?_, hsp ds cs Pd Z hs l, ⟨fun H' cs' σ' ρ' s' _ h' => pe H' cs' .non .non s' .non h', fun _ _ _ _ _ _ h => h.elim, fun _ _ _ _ _ _ h => h.elim, pe, fun H' cs' σ' ρ' x d s' _ r' h' => px H' cs' x d s' r' h'⟩⟩
  unfold startD L2.start
  rw [r.length]
  exact RepE.start _ r
end
theorem takesD {P : Program} {w : World} {K : PySem.W.Frag} {mg : Str → Option Value} {base : Heap} {N : List Str} {qual : Str} {scope : Scope} {f : Addr} {cdv : Value} {A : Around} {outer : List PySem.Env} {s : Shared} {H : Hp} {E : XK} :
    Takes (cxD P w K mg base N qual scope f cdv A outer s H E) (fun cls d _ H => E cls d H) := takes_of rfl rfl rfl rfl
theorem passD {P : Program} {w : World} {K : PySem.W.Frag} {mg : Str → Option Value} {base : Heap} {N : List Str} {qual : Str} {scope : Scope} {f : Addr} {cdv : Value} {A : Around} {outer : List PySem.Env} {s : Shared} {H : Hp} {E : XK} :
    PassesOwn (model P w) (cxD P w K mg base N qual scope f cdv A outer s H E).A (cxD P w K mg base N qual scope f cdv A outer s H E).env (cxD P w K mg base N qual scope f cdv A outer s H E).xe :=
  passes_of (X := cxD P w K mg base N qual scope f cdv A outer s H E) rfl
section
variable {X : Cx} {W : WX} {K : PySem.W.Frag} {σ : L2.St} {H : Hp} {pos : Pos} {a b e : Expr} {wa wb : WE}
abbrev DSet := D → D → D → Cs → (Cs → Prop) → Prop
def oSetL : DSet := fun o i v cs Q => match o, i with
  | .opq (.ref p), .int k => (match look p cs with
    | some (.lst ds) => (match ixN ds.length k with
      | some j => Q (put p (.lst (ds.set j v)) cs)
      | none => False)
    | _ => False)
  | _, _ => False
/-- o[i] = v -/
def sSetIx (wv wo wi : WE) (o : DSet) : WS := fun f ρ cs => wv ρ cs (fun v cs1 => wo ρ cs1 (fun x cs2 => wi ρ cs2 (fun i cs3 => o x i v cs3 fun cs4 => f.nx ρ cs4) (fun x cs1 => f.ex x ρ cs1)) (fun x cs1 => f.ex x ρ cs1)) (fun x cs1 => f.ex x ρ cs1)
theorem setL_inv {o i v : D} {cs : Cs} {Q : Cs → Prop} (h : oSetL o i v cs Q) : ∃ p k ds j, o = .opq (.ref p) ∧ i = .int k ∧ look p cs = some (.lst ds) ∧ ixN ds.length k = some j ∧ Q (put p (.lst (ds.set j v)) cs) := by
  unfold oSetL at h
  split at h
  · split at h
    · rename_i e
      split at h
      · rename_i e2
        exact ⟨_, _, _, _, rfl, rfl, e, e2, h⟩
      · exact h.elim
    · exact h.elim
  · exact h.elim
theorem lst_at {K : PySem.W.Frag} {F G0 H : Hp} {cs : Cs} {p : Addr} {ds : List D} (s : Sta K F G0 cs H) (h : look p cs = some (.lst ds)) : ∃ vs, H p = some (.lst vs) ∧ RepL K (pur F cs H) vs ds := by
  obtain ⟨o, e, q⟩ := s.look h
  cases o <;> first | exact ⟨_, e, q⟩ | exact q.elim
theorem ds_setix {o i v : Expr} {wo wi wv : WE} {p1 : Pos} (hv : DE X W v wv) (ho : DE X W o wo) (hi : DE X W i wi)
    (ha : ∀ u, assign (.Subscript o i p1) X.env u = (do
      let ov ← holding [u] (eval o X.env)
      let iv ← holding [u, ov] (eval i X.env)
      standAt p1
      holding [u, ov, iv] (setItem ov iv u)
      release [u, ov, iv] []) := by intro _; rfl)
    (hs : swapsWithSole [.Subscript o i p1] v pos.line X.env = pure false := by rfl) (hw : swappedStores [.Subscript o i p1] v X.env = pure none := by rfl) (h1 : (assignEach [.Subscript o i p1] X.env).map (·.2) = [assign (.Subscript o i p1) X.env] := by rfl) :
    DS X W (.Assign [.Subscript o i p1] v pos) (sSetIx wv wo wi oSetL) := PS.imp (ps_asg hv (pg_sub ho hi set_list ha) hs hw h1) fun E σ H h => by
  obtain ⟨F, cs, ρ, f, s, re, hw, pe⟩ := h
  refine ⟨F, cs, ρ, _, _, s, re, hw, fun H1 cs1 y dy s1 r1 h1 => ?_, pe.px re⟩
  refine ⟨F, cs1, ρ, _, _, s1.self, re.mono s1.gr, h1, fun H2 cs2 x dx s2 r2 h2 => ?_, (pe.le s1.gr).px (re.mono s1.gr)⟩
  refine ⟨F, cs2, ρ, _, _, s2.self, re.mono (s1.gr.trans s2.gr), h2, fun H3 cs3 z dz s3 r3 h3 => ?_, (pe.le (s1.gr.trans s2.gr)).px (re.mono (s1.gr.trans s2.gr))⟩
  obtain ⟨p, k, ds, j, rfl, rfl, hl, hj, h⟩ := setL_inv h3
  obtain ⟨vs, e, rl⟩ := lst_at s3 hl
  cases r2
  cases r3
  have s4 := s3.put hl (m' := .lst (ds.set j dy)) (o' := .lst (vs.set j y)) (rl.set (r1.mono (s2.gr.trans s3.gr)) j)
  refine ⟨p, vs, k, j, rfl, rfl, e, by rw [rl.length]; exact hj, ?_⟩
  have g := (s1.gr.trans s2.gr).trans s3.gr
  exact pe.nx _ _ σ ρ (s4.from_ g) (re.mono (g.trans s4.gr)) h
/-- the i-th item of the changing list at p; len of it -/
def oIxM : DO2 := fun x y cs P => match x, y with
  | .opq (.ref p), .int i => (match look p cs with
    | some (.lst ds) => (match atD ds i with
      | some d => P d cs
      | none => False)
    | _ => False)
  | _, _ => False
theorem adq_ixM : Adq K (rIx K) oIxM := fun F cs H x y dx dy P Q s rx ry ho pe => by
  unfold oIxM at ho
  split at ho
  · split at ho
    · rename_i e
      split at ho
      · rename_i d e2
        cases rx
        cases ry
        obtain ⟨vs, e3, rl⟩ := lst_at s e
        obtain ⟨v, e4, rv⟩ := rl.atI e2
        exact .inl ⟨_, _, _, v, rfl, rfl, SqL.of e3, e4, pe H cs _ _ s rv ho⟩
      · exact ho.elim
    · exact ho.elim
  · exact ho.elim
theorem d_ixM (ha : DE X W a wa) (hb : DE X W b wb) (hs : PlainIx b := by intro _ _; rfl) : DE X W (.Subscript a b pos) (wOp oIxM wa wb) := d_ix ix_seq adq_ixM ha hb hs
/-- methods of lists that change -/
abbrev DMt := D → List D → Cs → DP → Prop
def oAppend : DMt := fun x ds cs P => match x, ds with
  | .opq (.ref p), [d] => (match look p cs with
    | some (.lst xs) => xs.length < 100000 ∧ P .non (put p (.lst (xs ++ [d])) cs)
    | _ => False)
  | _, _ => False
theorem append_inv {x : D} {ds : List D} {cs : Cs} {P : DP} (h : oAppend x ds cs P) : ∃ p d xs, x = .opq (.ref p) ∧ ds = [d] ∧ look p cs = some (.lst xs) ∧ xs.length < 100000 ∧ P .non (put p (.lst (xs ++ [d])) cs) := by
  unfold oAppend at h
  split at h
  · split at h
    · rename_i e
      exact ⟨_, _, _, rfl, rfl, e, h.1, h.2⟩
    · exact h.elim
  · exact h.elim
end
end DL
namespace DL
open PySem L2
def dR (r : Rat) : D := .tup [.int r.num, .int (r.den : Int)]
theorem eqD_int (i j : Int) : eqD (.int i) (.int j) = decide (i = j) := by
  unfold eqD
  rw [Bool.beq_eq_decide_eq]
theorem eqD_dR (r s : Rat) : eqD (dR r) (dR s) = decide (r = s) := by
  unfold dR
  simp only [eqD, eqL, Bool.and_true]
  rw [Bool.beq_eq_decide_eq, Bool.beq_eq_decide_eq, ← Bool.decide_and]
  have e : (r.num = s.num ∧ (r.den : Int) = (s.den : Int)) ↔ r = s := ⟨fun h => Rat.ext h.1 (Int.ofNat_inj.mp h.2), fun h => by rw [h]; exact ⟨rfl, rfl⟩⟩
  exact decide_eq_decide.mpr e
/-- both numbers below 2 ^ n -/
def Sz (n : Nat) (r : Rat) : Prop := r.num.natAbs < 2 ^ n ∧ r.den < 2 ^ n
theorem Sz.mono {n m : Nat} {r : Rat} (h : Sz n r) (l : n ≤ m) : Sz m r :=
  ⟨Nat.lt_of_lt_of_le h.1 (Nat.pow_le_pow_right (by decide) l), Nat.lt_of_lt_of_le h.2 (Nat.pow_le_pow_right (by decide) l)⟩
theorem mulOk_of {i j : Int} {a b : Nat} (ha : i.natAbs < 2 ^ a) (hb : j.natAbs < 2 ^ b) (h : a + b ≤ 900000) : IntMulOk i j := by
  have ha' : i.natAbs < 2 ^ (a + 1) := Nat.lt_of_lt_of_le ha (Nat.pow_le_pow_right (by decide) (Nat.le_succ _))
  have hb' : j.natAbs < 2 ^ (b + 1) := Nat.lt_of_lt_of_le hb (Nat.pow_le_pow_right (by decide) (Nat.le_succ _))
  exact CMulW.ok (wide_mul ha' hb' (Nat.succ_pos _) (Nat.succ_pos _) (by omega))
theorem mulOk_r {i j : Int} (h : j.natAbs < 2 ^ 64) : IntMulOk i j := CMul.ok (Or.inr (by omega))
theorem mulOk_l {i j : Int} (h : i.natAbs < 2 ^ 64) : IntMulOk i j := CMul.ok (Or.inl (by omega))
theorem gcd_pos {a b : Nat} (h : 0 < b) : 0 < Nat.gcd a b := Nat.gcd_pos_of_pos_right a h
/-- what part reckons -/
theorem part_pos (a b : Int) (h : 0 < b) : a / (Nat.gcd a.natAbs b.natAbs : Nat) = (Rat.divInt a b).num ∧ b / (Nat.gcd a.natAbs b.natAbs : Nat) = ((Rat.divInt a b).den : Int) := by
  have e : (Int.gcd b a) = Nat.gcd a.natAbs b.natAbs := by rw [Int.gcd, Nat.gcd_comm]
  constructor
  · rw [Rat.num_divInt, Int.sign_eq_one_of_pos h, Int.one_mul, e]
  · rw [Rat.den_divInt, if_neg (by omega), e]
    have : (b.natAbs : Int) = b := by omega
    rw [Int.natCast_ediv, this]
theorem part_neg (a b : Int) : Rat.divInt (-a) (-b) = Rat.divInt a b := Rat.neg_divInt_neg a b
theorem divInt_add (x y : Rat) : Rat.divInt (x.num * y.den + y.num * x.den) ((x.den : Int) * y.den) = x + y := by
  rw [Rat.add_def', ← Int.natCast_mul, Rat.divInt_ofNat]
theorem divInt_sub (x y : Rat) : Rat.divInt (x.num * y.den - y.num * x.den) ((x.den : Int) * y.den) = x - y := by
  rw [Rat.sub_def', ← Int.natCast_mul, Rat.divInt_ofNat]
theorem divInt_mul (x y : Rat) : Rat.divInt (x.num * y.num) ((x.den : Int) * y.den) = x * y := by
  rw [Rat.mul_def', ← Int.natCast_mul, Rat.divInt_ofNat]
theorem divInt_div (x y : Rat) : Rat.divInt (x.num * y.den) ((x.den : Int) * y.num) = x / y := by
  rw [Rat.div_def, Rat.inv_def, ← Rat.divInt_mul_divInt, Rat.num_divInt_den]
theorem den_ne (x : Rat) : (x.den : Int) ≠ 0 := by have := x.den_nz; omega
theorem den_pos (x : Rat) : (0 : Int) < x.den := by have := x.den_nz; omega
theorem gcd_ok {a b : Nat} (hb : 0 < b) (h : b < 2 ^ 9000) : (0 : Int) < (Nat.gcd a b : Int) ∧ (Nat.gcd a b : Int).natAbs.log2 < 9000 := by
  refine ⟨by have := gcd_pos (a := a) hb; omega, ?_⟩
  refine PySem.Flt.log2_lt_of (by decide) ?_
  rw [Int.natAbs_natCast]
  exact Nat.lt_of_le_of_lt (Nat.gcd_le_right _ hb) h
theorem abs_nat (a : Int) : (if a < 0 then -a else a) = (a.natAbs : Int) := by
  split <;> omega
theorem Sz.divInt {a b : Int} {n m : Nat} (h0 : b ≠ 0) (ha : a.natAbs < 2 ^ n) (hb : b.natAbs < 2 ^ m) (hn : n ≤ m) : Sz m (Rat.divInt a b) := by
  have ha' : a.natAbs < 2 ^ m := Nat.lt_of_lt_of_le ha (Nat.pow_le_pow_right (by decide) hn)
  constructor
  · rw [Rat.num_divInt]
    refine Nat.lt_of_le_of_lt ?_ ha'
    refine Nat.le_trans (Int.natAbs_ediv_le_natAbs _ _) ?_
    rw [Int.natAbs_mul]
    have : b.sign.natAbs ≤ 1 := by
      rcases Int.lt_trichotomy b 0 with h | h | h
      · rw [Int.sign_eq_neg_one_of_neg h]; decide
      · exact absurd h h0
      · rw [Int.sign_eq_one_of_pos h]; decide
    exact Nat.le_trans (Nat.mul_le_mul_right _ this) (by omega)
  · rw [Rat.den_divInt, if_neg h0]
    exact Nat.lt_of_le_of_lt (Nat.div_le_self _ _) hb
theorem lt_mul2 {a b n m : Nat} (ha : a < 2 ^ n) (hb : b < 2 ^ m) : a * b < 2 ^ (n + m) := by
  rw [Nat.pow_add]
  exact Nat.mul_lt_mul'' ha hb
theorem lt_add2 {a b n : Nat} (ha : a < 2 ^ n) (hb : b < 2 ^ n) : a + b < 2 ^ (n + 1) := by
  rw [Nat.pow_succ]; omega
theorem Sz.add {n m : Nat} {x y : Rat} (hx : Sz n x) (hy : Sz m y) : Sz (n + m + 1) (x + y) := by
  rw [← divInt_add]
  refine Sz.divInt (n := n + m + 1) (Int.mul_ne_zero (den_ne x) (den_ne y)) ?_ ?_ (Nat.le_refl _)
  · refine Nat.lt_of_le_of_lt (Int.natAbs_add_le _ _) ?_
    refine lt_add2 ?_ ?_
    · rw [Int.natAbs_mul]; exact lt_mul2 hx.1 hy.2
    · rw [Int.natAbs_mul, Nat.add_comm]; exact lt_mul2 hy.1 hx.2
  · rw [Int.natAbs_mul]
    exact Nat.lt_of_lt_of_le (lt_mul2 hx.2 hy.2) (Nat.pow_le_pow_right (by decide) (Nat.le_succ _))
theorem Sz.neg {n : Nat} {x : Rat} (hx : Sz n x) : Sz n (-x) := ⟨by rw [Rat.neg_num, Int.natAbs_neg]; exact hx.1, by rw [Rat.neg_den]; exact hx.2⟩
theorem Sz.sub {n m : Nat} {x y : Rat} (hx : Sz n x) (hy : Sz m y) : Sz (n + m + 1) (x - y) := by
  rw [Rat.sub_eq_add_neg]; exact hx.add hy.neg
theorem Sz.mul {n m : Nat} {x y : Rat} (hx : Sz n x) (hy : Sz m y) : Sz (n + m) (x * y) := by
  rw [← divInt_mul]
  refine Sz.divInt (n := n + m) (Int.mul_ne_zero (den_ne x) (den_ne y)) ?_ ?_ (Nat.le_refl _)
  · rw [Int.natAbs_mul]; exact lt_mul2 hx.1 hy.1
  · rw [Int.natAbs_mul]; exact lt_mul2 hx.2 hy.2
theorem Sz.div {n m : Nat} {x y : Rat} (hx : Sz n x) (hy : Sz m y) (h : y ≠ 0) : Sz (n + m) (x / y) := by
  rw [← divInt_div]
  refine Sz.divInt (n := n + m) (Int.mul_ne_zero (den_ne x) (fun z => h (Rat.num_eq_zero.mp z))) ?_ ?_ (Nat.le_refl _)
  · rw [Int.natAbs_mul]; exact lt_mul2 hx.1 hy.2
  · rw [Int.natAbs_mul]; exact lt_mul2 hx.2 hy.1
theorem Sz.nn {n m : Nat} {x y : Rat} (hx : Sz n x) (hy : Sz m y) (h : n + m ≤ 900000 := by decide) : IntMulOk x.num y.num := mulOk_of hx.1 hy.1 h
theorem Sz.nd {n m : Nat} {x y : Rat} (hx : Sz n x) (hy : Sz m y) (h : n + m ≤ 900000 := by decide) : IntMulOk x.num (y.den : Int) := mulOk_of hx.1 (by rw [Int.natAbs_natCast]; exact hy.2) h
theorem Sz.dd {n m : Nat} {x y : Rat} (hx : Sz n x) (hy : Sz m y) (h : n + m ≤ 900000 := by decide) : IntMulOk (x.den : Int) (y.den : Int) := mulOk_of (by rw [Int.natAbs_natCast]; exact hx.2) (by rw [Int.natAbs_natCast]; exact hy.2) h
theorem dd_ok {n m : Nat} {x y : Rat} (hx : Sz n x) (hy : Sz m y) (h : n + m ≤ 9000) : ((x.den : Int) * (y.den : Int)).natAbs < 2 ^ 9000 := by
  rw [Int.natAbs_mul]
  exact Nat.lt_of_lt_of_le (lt_mul2 hx.2 hy.2) (Nat.pow_le_pow_right (by decide) h)
/-- the greater of x by y and y by x -/
def shapeR (x y : Rat) : Rat := if x < y then y / x else x / y
theorem Sz.shape {n m : Nat} {x y : Rat} (hx : Sz n x) (hy : Sz m y) (x0 : 0 < x) (y0 : 0 < y) : Sz (n + m) (shapeR x y) := by
  unfold shapeR
  split
  · rw [Nat.add_comm]; exact hy.div hx (Rat.ne_of_gt x0)
  · exact hx.div hy (Rat.ne_of_gt y0)
theorem div_self' {x : Rat} (h : x ≠ 0) : x / x = 1 := by rw [Rat.div_def, Rat.mul_inv_cancel x h]
def liesR (l t w h x y : Rat) : Bool := !decide (x < l) && (decide (x < l + w) && (!decide (y < t) && decide (y < t + h)))
theorem lt_addR {a b : Rat} (h : 0 < b) : a < a + b := by
  have := Rat.add_lt_add_left (c := a) |>.mpr h
  rwa [Rat.add_zero] at this
theorem liesR_lt {l t w h : Rat} (pw : 0 < w) (ph : 0 < h) : liesR l t w h l t = true := by
  unfold liesR
  rw [decide_eq_false (Rat.lt_irrefl (a := l)), decide_eq_false (Rat.lt_irrefl (a := t)), decide_eq_true (lt_addR pw), decide_eq_true (lt_addR ph)]; rfl
end DL
namespace DL
open PySem PySem.Spec PyProof.Rows L2
section
variable {X : Cx} {W : WX} {K : PySem.W.Frag} {σ : L2.St} {H : Hp} {pos : Pos} {a b e : Expr} {es : List Expr} {wa wb we : DL.WE} {w : WA} {name : Str} {apos cpos : Pos} {T id : String}
def AdqM (K : PySem.W.Frag) (T : String) (r : V → List V → Hp → VK → Prop) (o : DMt) : Prop := ∀ F cs H x xs dx ds P Q, Sta K F (pur F cs H) cs H → Rep K (pur F cs H) x dx → RepL K (pur F cs H) xs ds → o dx ds cs P → PostE K F (pur F cs H) P Q → r x xs H Q
def isL (d : D) (cs : Cs) : Prop := match d with
  | .lst _ => True
  | .opq (.ref p) => (match look p cs with
    | some (.lst _) => True
    | _ => False)
  | _ => False
theorem isL_ty {F : Hp} {cs : Cs} {x : V} {dx : D} (s : Sta K F (pur F cs H) cs H) (r : Rep K (pur F cs H) x dx) (h : isL dx cs) : tyV K "list" x H := by
  unfold isL at h
  split at h
  · cases r with
    | lst h r => exact .inl ⟨rfl, _, ex_l pur_le h⟩
  · split at h
    · rename_i e
      obtain ⟨vs, e2, _⟩ := lst_at s e
      cases r
      exact .inl ⟨rfl, _, SqL.of e2⟩
    · exact h.elim
  · exact h.elim
def wMtL (o : DMt) (wo : DL.WE) (w : WA) : DL.WE := fun ρ cs P Z => wo ρ cs (fun x cs1 => isL x cs1 ∧ w ρ cs1 (fun ds cs2 => o x ds cs2 P) Z) Z
theorem d_bmL {r : V → List V → Hp → VK → Prop} {o : DMt} (slot : Slot "list" name id) (hty : typeOf (.builtin id) = pure (.type "method_descriptor")) (hm : MtR X id r) (adq : AdqM X.K "list" r o) (ho : DE X W a wa) (ha : DA X W (e :: es) w)
    (hbase : attributeBase a name X.env (eval a X.env) = eval a X.env := by rfl)
    (hfew : ((backTo cpos (starEach (e :: es) X.env)).all (fun x => !x.1) && (backToKw cpos (keywordEach [] X.env)).all (fun x => x.1.isSome)
      && decide ((e :: es).length + ([] : List Keyword).length + (if ([] : List Keyword).isEmpty then 0 else 1) < 30)) = true := by rfl)
    (hline : (apos.endLine == cpos.line) = true := by rfl) (hs : starEach (e :: es) X.env = (false, eval e X.env) :: starEach es X.env := by rfl) (hplain : (backTo cpos (starEach es X.env)).any (·.1) = false := by rfl) :
    DE X W (.Call (.Attribute a name apos) (e :: es) [] cpos) (wMtL o wa w) := PE.imp (pe_bm PySem.F.plainAttrs_list slot hty hm ho ha hbase hfew hline hs hplain) fun σ H Q h => by
  obtain ⟨F, cs, ρ, P, Z, s, re, hw, pe, px⟩ := h
  refine ⟨F, cs, ρ, _, Z, s, re, hw, fun H1 cs1 x dx s1 r1 h1 => ⟨isL_ty s1.self r1 h1.1, ?_⟩, px⟩
  refine ⟨F, cs1, ρ, _, Z, s1.self, re.mono s1.gr, h1.2, fun H2 cs2 vs ds s2 r2 l2 h2 => ?_, px.le s1.gr⟩
  exact adq F cs2 H2 x vs dx ds P Q s2.self (r1.mono s2.gr) r2 h2 (pe.le (s1.gr.trans s2.gr))
def wMtL0 (o : DMt) (wo : DL.WE) : DL.WE := fun ρ cs P Z => wo ρ cs (fun x cs1 => isL x cs1 ∧ o x [] cs1 P) Z
theorem adq_append : AdqM K "list" rAppend oAppend := fun F cs H x xs dx ds P Q s rx rl ho pe => by
  obtain ⟨p, d, ys, rfl, rfl, hl, hz, h⟩ := append_inv ho
  obtain ⟨vs, e, rv⟩ := lst_at s hl
  cases rx
  cases rl with
  | cons r1 r2 =>
    cases r2
    have s4 := s.put hl (m' := .lst (ys ++ [d])) (o' := .lst (vs ++ [_])) (rv.append (.cons r1 .nil))
    exact ⟨p, vs, _, rfl, rfl, e, by rw [rv.length]; exact Nat.lt_of_lt_of_le hz (by decide), pe _ _ _ _ s4 .non h⟩
theorem d_append (ho : DE X W a wa) (ha : DA X W [e] w) (hbase : attributeBase a "append" X.env (eval a X.env) = eval a X.env := by rfl)
    (hfew : ((backTo cpos (starEach [e] X.env)).all (fun x => !x.1) && (backToKw cpos (keywordEach [] X.env)).all (fun x => x.1.isSome)
      && decide ([e].length + ([] : List Keyword).length + (if ([] : List Keyword).isEmpty then 0 else 1) < 30)) = true := by rfl)
    (hline : (apos.endLine == cpos.line) = true := by rfl) (hs : starEach [e] X.env = (false, eval e X.env) :: starEach [] X.env := by rfl) (hplain : (backTo cpos (starEach [] X.env)).any (·.1) = false := by rfl) :
    DE X W (.Call (.Attribute a "append" apos) [e] [] cpos) (wMtL oAppend wa w) := d_bmL PySem.F.slot_list_append PySem.F.type_list_append mt_append adq_append ho ha hbase hfew hline hs hplain
def cntD (xs : List D) (d : D) : Nat := xs.countP fun y => eqD y d
def oCount : DMt := fun x ds cs P => match x, ds with
  | .lst xs, [d] => plL 20 xs = true ∧ plD 20 d = true ∧ P (.int (cntD xs d : Int)) cs
  | _, _ => False
end
end DL
namespace DL
open PySem PySem.Spec PyProof.Rows L2
section
variable {ρ : DL.Env} {cs : Cs} {P : DP} {Z : XZ} {wa wb we wo wi wv : DL.WE} {w : WA} {ta tb : WT} {u v : WS} {f : Fin} {Q : Bool → Cs → Prop} {d x y : D} {i j : Nat} {PA : List D → Cs → Prop}
section
variable {nx bk ct : DL.Env → Cs → Prop} {rt : D → Cs → Prop} {ex : Exn → DL.Env → Cs → Prop}
theorem r_seq (h : u ⟨fun ρ' cs' => v ⟨nx, rt, ex, bk, ct⟩ ρ' cs', rt, ex, bk, ct⟩ ρ cs) : sSeq u v ⟨nx, rt, ex, bk, ct⟩ ρ cs := h
theorem r_key (N : DL.Env → Cs → Prop) (h1 : ∀ ρ' cs', N ρ' cs' → v ⟨nx, rt, ex, bk, ct⟩ ρ' cs') (h2 : ∀ nx' : DL.Env → Cs → Prop, (∀ ρ' cs', N ρ' cs' → nx' ρ' cs') → u ⟨nx', rt, ex, bk, ct⟩ ρ cs) : sSeq u v ⟨nx, rt, ex, bk, ct⟩ ρ cs := h2 _ h1
end
theorem r_loop {g : WG} {wb : WS} (I : Nat → DL.Env → Cs → Prop) : ∀ (xs : List D) (k : Nat) {ρ : DL.Env} {cs : Cs}, I k ρ cs →
    (∀ i d ρ cs (N : DL.Env → Cs → Prop), xs[i]? = some d → I (k + i) ρ cs → (∀ ρ' cs', I (k + i + 1) ρ' cs' → N ρ' cs') → g d ρ fun ρ1 => wb { f with nx := N, ct := N, bk := f.nx } ρ1 cs) →
    (∀ ρ cs, I (k + xs.length) ρ cs → f.nx ρ cs) → loopW g wb f xs ρ cs
  | [], k, ρ, cs, h0, hs, hd => hd ρ cs h0
  | d :: r, k, ρ, cs, h0, hs, hd => by
    refine hs 0 d ρ cs _ rfl h0 fun ρ' cs' h1 => r_loop I r (k + 1) h1 (fun i d ρ cs N e hi hn => ?_) (fun ρ cs h => ?_)
    · have e1 : k + (i + 1) = k + 1 + i := by omega
      refine hs (i + 1) d ρ cs N e (by rw [e1]; exact hi) fun ρ' cs' hh => hn ρ' cs' (by rw [← e1]; exact hh)
    · refine hd ρ cs ?_
      have e1 : k + (d :: r).length = k + 1 + r.length := by rw [List.length_cons]; omega
      rw [e1]; exact h
theorem r_loop0 {nx bk ct : DL.Env → Cs → Prop} {rt : D → Cs → Prop} {ex : Exn → DL.Env → Cs → Prop} {g : WG} {wb : WS} (I : Nat → DL.Env → Cs → Prop) {xs : List D} (h0 : I 0 ρ cs)
    (hs : ∀ i d ρ cs (N : DL.Env → Cs → Prop), xs[i]? = some d → I i ρ cs → (∀ ρ' cs', I (i + 1) ρ' cs' → N ρ' cs') → g d ρ fun ρ1 => wb ⟨N, rt, ex, nx, N⟩ ρ1 cs)
    (hd : ∀ ρ cs, I xs.length ρ cs → nx ρ cs) : loopW g wb ⟨nx, rt, ex, bk, ct⟩ xs ρ cs :=
  r_loop I xs 0 h0 (fun i d ρ cs N e hi hn => hs i d ρ cs N e (by rw [Nat.zero_add] at hi; exact hi) (by rw [Nat.zero_add] at hn; exact hn)) (fun ρ cs h => hd ρ cs (by rw [Nat.zero_add] at h; exact h))
theorem r_while {nx bk ct : DL.Env → Cs → Prop} {rt : D → Cs → Prop} {ex : Exn → DL.Env → Cs → Prop} {wt : WT} {wb : WS} (I : Nat → DL.Env → Cs → Prop) (h0 : ∃ m, I m ρ cs)
    (hs : ∀ m ρ cs (N : DL.Env → Cs → Prop), I m ρ cs → (∀ m' ρ' cs', m' < m → I m' ρ' cs' → N ρ' cs') → wt ρ cs (fun k cs1 => (k = true → wb ⟨N, rt, ex, nx, N⟩ ρ cs1) ∧ (k = false → nx ρ cs1)) (fun x cs1 => ex x ρ cs1)) :
    sWhile wt wb ⟨nx, rt, ex, bk, ct⟩ ρ cs := ⟨I, h0, fun m ρ cs h => hs m ρ cs _ h fun m' ρ' cs' hm hi => ⟨m', hm, hi⟩⟩
theorem r_gN {k : DL.Env → Prop} (h : k (ρ.set i (some d))) : gN i d ρ k := h
theorem r_gT {n : Nat} {gs : WGs} {ds : List D} {k : DL.Env → Prop} (hn : ds.length = n) (h : gs ds ρ k) : gT n gs (.tup ds) ρ k := ⟨hn, h⟩
theorem r_gCn {g : WG} {gs : WGs} {ds : List D} {k : DL.Env → Prop} (h : g d ρ fun ρ' => gs ds ρ' k) : gCn g gs (d :: ds) ρ k := h
theorem r_gNl {k : DL.Env → Prop} (h : k ρ) : gNl [] ρ k := h
theorem rng_get {lo : Int} {n i : Nat} {d : D} (h : (rngD lo n)[i]? = some d) : d = .int (lo + (i : Int)) ∧ i < n := by
  obtain ⟨h1, h2⟩ := List.getElem?_eq_some_iff.mp h
  simp [rngD] at h1 h2
  exact ⟨h2.symm, h1⟩
theorem rng_len (lo : Int) (n : Nat) : (rngD lo n).length = n := by simp [rngD]
theorem r_kT {A B : Prop} (h : A) : (true = true → A) ∧ (true = false → B) := ⟨fun _ => h, fun z => absurd z (by decide)⟩
theorem r_nT {A B : Prop} (h : B) : ((!true) = true → A) ∧ ((!true) = false → B) := ⟨fun z => absurd z (by decide), fun _ => h⟩
theorem r_nF {A B : Prop} (h : A) : ((!false) = true → A) ∧ ((!false) = false → B) := ⟨fun _ => h, fun z => absurd z (by decide)⟩
theorem r_kF {A B : Prop} (h : B) : (false = true → A) ∧ (false = false → B) := ⟨fun z => absurd z (by decide), fun _ => h⟩
section
variable {nx bk ct : DL.Env → Cs → Prop} {rt : D → Cs → Prop} {ex : Exn → DL.Env → Cs → Prop}
theorem r_nx (h : nx ρ cs) : Fin.nx ⟨nx, rt, ex, bk, ct⟩ ρ cs := h
theorem r_rt (h : rt d cs) : Fin.rt ⟨nx, rt, ex, bk, ct⟩ d cs := h
theorem r_bk (h : bk ρ cs) : Fin.bk ⟨nx, rt, ex, bk, ct⟩ ρ cs := h
theorem r_cn (h : ct ρ cs) : Fin.ct ⟨nx, rt, ex, bk, ct⟩ ρ cs := h
end
theorem r_next (h : f.nx ρ cs) : sNext f ρ cs := h
theorem r_ret (h : we ρ cs f.rt (fun x cs1 => f.ex x ρ cs1)) : sRet we f ρ cs := h
theorem r_retN (h : f.rt .non cs) : sRetN f ρ cs := h
theorem r_drop (h : we ρ cs (fun _ cs1 => f.nx ρ cs1) (fun x cs1 => f.ex x ρ cs1)) : sDrop we f ρ cs := h
theorem r_brk (h : f.bk ρ cs) : sBreak f ρ cs := h
theorem r_ct (h : f.ct ρ cs) : sCont f ρ cs := h
theorem r_sif (h : ta ρ cs (fun k cs1 => (k = true → u f ρ cs1) ∧ (k = false → v f ρ cs1)) (fun x cs1 => f.ex x ρ cs1)) : sIf ta u v f ρ cs := h
theorem r_set (h : we ρ cs (fun d cs1 => f.nx (ρ.set i (some d)) cs1) (fun x cs1 => f.ex x ρ cs1)) : sAsg we (gN i) f ρ cs := h
theorem r_asg {g : WG} (h : we ρ cs (fun d cs1 => g d ρ fun ρ' => f.nx ρ' cs1) (fun x cs1 => f.ex x ρ cs1)) : sAsg we g f ρ cs := h
theorem r_par (h : wa ρ cs (fun x cs1 => wb ρ cs1 (fun y cs2 => f.nx ((ρ.set i (some x)).set j (some y)) cs2) (fun x cs1 => f.ex x ρ cs1)) (fun x cs1 => f.ex x ρ cs1)) : sPar i j (wCons wa (wCons wb wNil)) f ρ cs := h
theorem r_setix (h : wv ρ cs (fun v cs1 => wo ρ cs1 (fun x cs2 => wi ρ cs2 (fun i cs3 => oSetL x i v cs3 fun cs4 => f.nx ρ cs4) (fun x cs1 => f.ex x ρ cs1)) (fun x cs1 => f.ex x ρ cs1)) (fun x cs1 => f.ex x ρ cs1)) : sSetIx wv wo wi oSetL f ρ cs := h
theorem r_aug {o : DO2} (hi : ρ[i]? = some (some x)) (h : we ρ cs (fun y cs1 => o x y cs1 fun z cs2 => f.nx (ρ.set i (some z)) cs2) (fun x cs1 => f.ex x ρ cs1)) : sAug i o we f ρ cs := by
  unfold sAug; rw [hi]; exact h
theorem r_for {wi : WI} {g : WG} (h : wi ρ cs (fun xs cs1 => loopW g u f xs ρ cs1) (fun x cs1 => f.ex x ρ cs1)) : sFor wi g u f ρ cs := h
theorem r_var (hi : ρ[i]? = some (some d)) (h : P d cs) : wVar i ρ cs P Z := by
  unfold wVar; rw [hi]; exact h
theorem r_c (h : P d cs) : wC d ρ cs P Z := h
theorem r_op {o : DO2} (h : wa ρ cs (fun x cs1 => wb ρ cs1 (fun y cs2 => o x y cs2 P) Z) Z) : wOp o wa wb ρ cs P Z := h
theorem r_un {o : D → Cs → DP → Prop} (h : wa ρ cs (fun x cs1 => o x cs1 P) Z) : wUn o wa ρ cs P Z := h
theorem r_test (h : wa ρ cs (fun x cs1 => match x with | .bl k => Q k cs1 | _ => False) Z) : wTest wa ρ cs Q Z := h
theorem r_and (h : ta ρ cs (fun k cs1 => (k = true → tb ρ cs1 Q Z) ∧ (k = false → Q false cs1)) Z) : wAnd ta tb ρ cs Q Z := h
theorem r_or (h : ta ρ cs (fun k cs1 => (k = true → Q true cs1) ∧ (k = false → tb ρ cs1 Q Z)) Z) : wOr ta tb ρ cs Q Z := h
theorem r_not (h : ta ρ cs (fun k cs1 => Q (!k) cs1) Z) : wNot ta ρ cs Q Z := h
theorem r_if (h : ta ρ cs (fun k cs1 => (k = true → wa ρ cs1 P Z) ∧ (k = false → wb ρ cs1 P Z)) Z) : wIf ta wa wb ρ cs P Z := h
theorem r_andV (h : wa ρ cs (fun x cs1 => match x with | .bl k => (k = true → wb ρ cs1 P Z) ∧ (k = false → P (.bl false) cs1) | _ => False) Z) : wAndV wa wb ρ cs P Z := h
theorem r_orV (h : wa ρ cs (fun x cs1 => match x with | .bl k => (k = true → P (.bl true) cs1) ∧ (k = false → wb ρ cs1 P Z) | _ => False) Z) : wOrV wa wb ρ cs P Z := h
theorem r_notV (h : wa ρ cs (fun x cs1 => match x with | .bl k => P (.bl (!k)) cs1 | _ => False) Z) : wNotV wa ρ cs P Z := h
theorem r_nil (h : PA [] cs) : wNil ρ cs PA Z := h
theorem r_cons (h : we ρ cs (fun x cs1 => w ρ cs1 (fun xs cs2 => PA (x :: xs) cs2) Z) Z) : wCons we w ρ cs PA Z := h
theorem r_tup (h : w ρ cs (fun ds cs1 => P (.tup ds) cs1) Z) : wTup w ρ cs P Z := h
theorem r_lst (h : w ρ cs (fun ds cs1 => P (.lst ds) cs1) Z) : wLst w ρ cs P Z := h
theorem r_cb {o : DOn} (h : w ρ cs (fun ds cs1 => o ds cs1 P) Z) : wCB o w ρ cs P Z := h
theorem r_call {sp : DSp} (h : w ρ cs (fun ds cs1 => sp ds cs1 P Z) Z) : wCall sp [] w ρ cs P Z := by
  unfold wCall
  have e : (fun (ds : List D) (cs1 : Cs) => sp (ds ++ []) cs1 P Z) = fun ds cs1 => sp ds cs1 P Z := by
    funext ds cs1
    rw [List.append_nil]
  rw [e]
  exact h
theorem r_mtL {o : DMt} (h : wo ρ cs (fun x cs1 => isL x cs1 ∧ w ρ cs1 (fun ds cs2 => o x ds cs2 P) Z) Z) : wMtL o wo w ρ cs P Z := h
theorem r_mtL0 {o : DMt} (h : wo ρ cs (fun x cs1 => isL x cs1 ∧ o x [] cs1 P) Z) : wMtL0 o wo ρ cs P Z := h
variable {a b : Int} {p : Addr} {xs : List D}
theorem r_add (h : P (.int (a + b)) cs) : oAdd (.int a) (.int b) cs P := h
theorem r_sub (h : P (.int (a - b)) cs) : oSub (.int a) (.int b) cs P := h
theorem r_mul (hm : IntMulOk a b) (h : P (.int (a * b)) cs) : oMul (.int a) (.int b) cs P := ⟨hm, h⟩
theorem r_div (hm : 0 < b ∧ b.natAbs.log2 < 9000) (h : P (.int (a / b)) cs) : oDiv (.int a) (.int b) cs P := ⟨hm, h⟩
theorem r_mod (hm : 0 < b) (h : P (.int (a % b)) cs) : oMod (.int a) (.int b) cs P := ⟨hm, h⟩
theorem r_pow (hm : CPow a b) (h : P (.int (a ^ b.toNat)) cs) : oPow (.int a) (.int b) cs P := ⟨hm, h⟩
theorem r_lt (h : P (.bl (decide (a < b))) cs) : oLt (.int a) (.int b) cs P := h
theorem r_le (h : P (.bl (decide (a ≤ b))) cs) : oLe (.int a) (.int b) cs P := h
theorem r_gt (h : P (.bl (decide (b < a))) cs) : oGt (.int a) (.int b) cs P := h
theorem r_ge (h : P (.bl (decide (b ≤ a))) cs) : oGe (.int a) (.int b) cs P := h
theorem r_neg (h : P (.int (-a)) cs) : oNeg (.int a) cs P := h
theorem r_eqI (h : P (.bl (decide (a = b))) cs) : oEq (.int a) (.int b) cs P := ⟨rfl, rfl, by rw [eqD_int]; exact h⟩
theorem r_neI (h : P (.bl (!decide (a = b))) cs) : oNe (.int a) (.int b) cs P := ⟨rfl, rfl, by rw [eqD_int]; exact h⟩
theorem r_eqS {s t : Str} (h : P (.bl (decide (s = t))) cs) : oEq (.str s) (.str t) cs P := ⟨rfl, rfl, by
  have e : eqD (.str s) (.str t) = decide (s = t) := by unfold eqD; rw [Bool.beq_eq_decide_eq]
  rw [e]; exact h⟩
theorem r_neS {s t : Str} (h : P (.bl (!decide (s = t))) cs) : oNe (.str s) (.str t) cs P := ⟨rfl, rfl, by
  have e : eqD (.str s) (.str t) = decide (s = t) := by unfold eqD; rw [Bool.beq_eq_decide_eq]
  rw [e]; exact h⟩
theorem eqD_bl (k l : Bool) : eqD (.bl k) (.bl l) = (k == l) := by unfold eqD; rfl
theorem r_eqB {k l : Bool} (h : P (.bl (k == l)) cs) : oEq (.bl k) (.bl l) cs P := ⟨rfl, rfl, by rw [eqD_bl]; exact h⟩
theorem r_neB {k l : Bool} (h : P (.bl (!(k == l))) cs) : oNe (.bl k) (.bl l) cs P := ⟨rfl, rfl, by rw [eqD_bl]; exact h⟩
theorem plD_dR (r : Rat) {n : Nat} : plD (n + 1) (dR r) = true := by
  cases n <;> rfl
theorem r_eqR {r s : Rat} (h : P (.bl (decide (r = s))) cs) : oEq (dR r) (dR s) cs P := ⟨plD_dR r, plD_dR s, by rw [eqD_dR]; exact h⟩
theorem r_neR {r s : Rat} (h : P (.bl (!decide (r = s))) cs) : oNe (dR r) (dR s) cs P := ⟨plD_dR r, plD_dR s, by rw [eqD_dR]; exact h⟩
theorem r_ixT (hi : atD xs a = some d) (h : P d cs) : oIx (.tup xs) (.int a) cs P := by
  unfold oIx; simp only [hi]; exact h
theorem r_ixL (hi : atD xs a = some d) (h : P d cs) : oIx (.lst xs) (.int a) cs P := by
  unfold oIx; simp only [hi]; exact h
theorem r_ixR0 {r : Rat} (h : P (.int r.num) cs) : oIx (dR r) (.int 0) cs P := h
theorem r_ixR1 {r : Rat} (h : P (.int (r.den : Int)) cs) : oIx (dR r) (.int 1) cs P := h
theorem r_ixM (hl : look p cs = some (.lst xs)) (hi : atD xs a = some d) (h : P d cs) : oIxM (.opq (.ref p)) (.int a) cs P := by
  unfold oIxM; simp only [hl, hi]; exact h
theorem r_setL {R : Cs → Prop} (hl : look p cs = some (.lst xs)) (hi : ixN xs.length a = some j) (h : R (put p (.lst (xs.set j d)) cs)) : oSetL (.opq (.ref p)) (.int a) d cs R := by
  unfold oSetL; simp only [hl, hi]; exact h
theorem r_abs (h : P (.int (if a < 0 then -a else a)) cs) : oAbs [.int a] cs P := h
theorem r_lenL (h : P (.int (xs.length : Int)) cs) : oLen [.lst xs] cs P := h
theorem r_lenT (h : P (.int (xs.length : Int)) cs) : oLen [.tup xs] cs P := h
theorem r_listL (h : P (.lst xs) cs) : oList [.lst xs] cs P := h
theorem r_listT (h : P (.lst xs) cs) : oList [.tup xs] cs P := h
theorem r_append (hl : look p cs = some (.lst xs)) (hz : xs.length < 100000) (h : P .non (put p (.lst (xs ++ [d])) cs)) : oAppend (.opq (.ref p)) [d] cs P := by
  unfold oAppend; simp only [hl]; exact ⟨hz, h⟩
theorem r_isM (hl : look p cs = some (.lst xs)) {R : Prop} (h : R) : isL (.opq (.ref p)) cs ∧ R := ⟨by unfold isL; simp only [hl], h⟩
theorem r_isL {R : Prop} (h : R) : isL (.lst xs) cs ∧ R := ⟨trivial, h⟩
theorem r_count (h1 : plL 20 xs = true) (h2 : plD 20 d = true) (h : P (.int (cntD xs d : Int)) cs) : oCount (.lst xs) [d] cs P := ⟨h1, h2, h⟩
theorem r_seqI {R : List D → Cs → Prop} (h : we ρ cs (fun d cs1 => match d with | .lst xs => R xs cs1 | _ => False) Z) : iSeq we ρ cs R Z := h
theorem r_tupI {R : List D → Cs → Prop} (h : we ρ cs (fun d cs1 => match d with | .tup xs => R xs cs1 | _ => False) Z) : iTupD we ρ cs R Z := h
theorem r_rg1 {R : List D → Cs → Prop} (h : we ρ cs (fun d cs1 => match d with | .int j => (-(2 ^ 62) ≤ j ∧ j < 2 ^ 62) ∧ R (rngD 0 j.toNat) cs1 | _ => False) Z) : iRg1 (wCons we wNil) ρ cs R Z := by
  unfold iRg1 wCons wNil
  have e : (fun (d : D) (cs1 : Cs) => (match [d] with | [D.int j] => (-(2 ^ 62) ≤ j ∧ j < 2 ^ 62) ∧ R (rngD 0 j.toNat) cs1 | _ => False)) = fun d cs1 => match d with | .int j => (-(2 ^ 62) ≤ j ∧ j < 2 ^ 62) ∧ R (rngD 0 j.toNat) cs1 | _ => False := by
    funext d cs1
    cases d <;> rfl
  rw [← e] at h
  exact h
theorem divOk {b : Int} (h : 0 < b) (h2 : b < 2 ^ 60) : 0 < b ∧ b.natAbs.log2 < 9000 := by
  refine ⟨h, ?_⟩
  have e : b.natAbs < 2 ^ 60 := by omega
  exact Nat.lt_of_lt_of_le (PySem.Flt.log2_lt_of (by decide) e) (by decide)
theorem put_look {p : Addr} {m : MO} : ∀ {cs : Cs}, look p cs = some m → put p m cs = cs
  | [], h => by cases h
  | (a, x) :: r, h => by
    unfold look at h
    unfold put
    split at h
    · rename_i e
      cases h
      rw [if_pos e]
    · rename_i e
      rw [if_neg e, put_look h]
theorem decT {p : Prop} [Decidable p] (h : decide p = true) : p := of_decide_eq_true h
theorem decF {p : Prop} [Decidable p] (h : decide p = false) : ¬ p := of_decide_eq_false h
theorem ndecT {p : Prop} [Decidable p] (h : (!decide p) = true) : ¬ p := by simpa using h
theorem ndecF {p : Prop} [Decidable p] (h : (!decide p) = false) : p := by simpa using h
end
end DL
namespace DL
open PySem PySem.Spec PyProof.Rows L2
section
variable {X : Cx} {W : WX} {K : PySem.W.Frag} {σ : L2.St} {H : Hp} {pos : Pos} {a b e : Expr} {es : List Expr} {wa wb we : DL.WE} {w : WA}
theorem d_ty {x : Str} {n : String} (hg : Gl X x) (hm : X.mg x = none) (hv : bootBuiltins x = some (.type n)) (hn : x ≠ "__name__" := by decide) (hd : (x == ("__debug__" : Str)) = false := by decide) : DE X W (.Name x pos) (wC (.opq (.ty n))) :=
  d_of (pe_bltn hg hm hv (v := .ty n) rfl hn hd) fun _ => .opq _
def tyS : D → Option String
  | .non => some "NoneType"
  | .bl _ => some "bool"
  | .int _ => some "int"
  | .str _ => some "str"
  | .tup _ => some "tuple"
  | .lst _ => some "list"
  | .dic _ => some "dict"
  | _ => none
def isT (t n : String) : Bool := t == n || (t == "bool" && n == "int")
theorem isT_kit : (["NoneType", "bool", "int", "str", "tuple", "list", "dict"].all fun t => ["bool", "int", "str", "tuple", "list", "dict"].all fun n => kitB t n == some (isT t n)) = true := by decide +kernel
theorem isT_ok {d : D} {t n : String} (h : tyS d = some t) (hn : (["bool", "int", "str", "tuple", "list", "dict"].contains n) = true) : PySem.W.kitOne K (.type t) (.type n) = some (isT t n) := by
  refine kit_ty ?_
  have h1 : t ∈ ["NoneType", "bool", "int", "str", "tuple", "list", "dict"] := by
    cases d <;> simp [tyS] at h <;> subst h <;> decide
  have h2 : n ∈ ["bool", "int", "str", "tuple", "list", "dict"] := by simpa using hn
  exact eq_of_beq (List.all_eq_true.mp (List.all_eq_true.mp isT_kit t h1) n h2)
theorem tyX_of {F : Hp} {cs : Cs} {x : V} {d : D} {t : String} (r : Rep K (pur F cs H) x d) (h : tyS d = some t) : TyX K H x (.type t) := by
  cases r with
  | non => simp [tyS] at h; subst h; exact .base .non
  | bl b => simp [tyS] at h; subst h; exact .base (.bl b)
  | int i => simp [tyS] at h; subst h; exact .base (.int i)
  | str x => simp [tyS] at h; subst h; exact .base (.str x)
  | opq v => simp [tyS] at h
  | lst h1 r =>
    simp [tyS] at h; subst h
    rcases ex_l pur_le h1 with (q | ⟨o, q⟩) | ⟨o, its, n, q, c, _⟩
    · exact .base (.lst q)
    · exact .base (.frz q)
    · exact .kList q c
  | tup h1 r =>
    simp [tyS] at h; subst h
    rcases ex_t pur_le h1 with (q | ⟨o, q⟩) | ⟨o, its, n, q, c, _⟩
    · exact .base (.tup q)
    · exact .fTuple q
    · exact .kTuple q c
  | dic h1 r =>
    simp [tyS] at h; subst h
    exact .fDict (pur_le _ _ h1)
  | dct h1 r => simp [tyS] at h
  | ins h1 h2 r => simp [tyS] at h
  | xcp h1 r => simp [tyS] at h
def isiD (d : D) (n : String) : Option Bool := (tyS d).bind fun t => if (["bool", "int", "str", "tuple", "list", "dict"].contains n) = true then some (isT t n) else none
def oIsi : DOn := fun ds cs P => match ds with
  | [d, .opq (.ty n)] => (match isiD d n with
    | some k => P (.bl k) cs
    | none => False)
  | _ => False
theorem isiD_inv {d : D} {n : String} {k : Bool} (h : isiD d n = some k) : ∃ t, tyS d = some t ∧ (["bool", "int", "str", "tuple", "list", "dict"].contains n) = true ∧ k = isT t n := by
  unfold isiD at h
  cases e : tyS d with
  | none => rw [e] at h; cases h
  | some t =>
    rw [e, Option.bind_some] at h
    split at h
    · rename_i hn
      cases h
      exact ⟨t, rfl, hn, rfl⟩
    · cases h
theorem adq_isi : AdqN K (rIsi K) oIsi := fun F cs H xs ds P Q s r ho pe => by
  unfold oIsi at ho
  split at ho
  · split at ho
    · rename_i k e
      obtain ⟨t, h1, h2, h3⟩ := isiD_inv e
      cases r with
      | cons r1 r2 =>
        cases r2 with
        | cons r2 r3 =>
          cases r3
          cases r2
          exact ⟨_, _, _, _, k, rfl, .ty _, tyX_of r1 h1, by rw [h3]; exact isT_ok h1 h2, pe H cs _ _ s (.bl _) ho⟩
    · exact ho.elim
  · exact ho.elim
/-- isinstance(x, (T1, T2, ..)) -/
def tyNames : List D → Option (List String)
  | [] => some []
  | .opq (.ty n) :: r => if (["bool", "int", "str", "tuple", "list", "dict"].contains n) = true then (tyNames r).map (n :: ·) else none
  | _ => none
def oIsiT : DOn := fun ds cs P => match ds with
  | [d, .tup ts] => (match tyS d, tyNames ts with
    | some t, some ns => P (.bl (ns.any fun n => isT t n)) cs
    | _, _ => False)
  | _ => False
theorem isiAny_ok {G : Hp} {d : D} {t : String} (ht : tyS d = some t) : ∀ {ts : List D} {vs : List V} {ns : List String}, RepL K G vs ts → tyNames ts = some ns → Paired ClsV vs (ns.map Value.type) ∧ PySem.W.kitAny K (.type t) (ns.map Value.type) = some (ns.any fun n => isT t n)
  | [], _, ns, .nil, h => by
      have e : some [] = some ns := h
      cases e; exact ⟨.nil, rfl⟩
  | c :: r, _, ns, .cons r1 r2, h => by
    cases c <;> try (simp [tyNames] at h; done)
    rename_i v
    cases v <;> try (simp [tyNames] at h; done)
    rename_i n
    cases r1
    unfold tyNames at h
    split at h
    · rename_i hn
      cases e : tyNames r with
      | none => rw [e] at h; cases h
      | some ms =>
        rw [e] at h
        cases h
        obtain ⟨p1, p2⟩ := isiAny_ok ht r2 e
        refine ⟨.cons (.ty n) p1, ?_⟩
        rw [List.map_cons, List.any_cons]
        exact kitAny_cons (b := isT t n) (isT_ok ht hn) (fun z => by rw [p2, z, Bool.false_or]) (fun z => by rw [z, Bool.true_or])
    · cases h
theorem adq_isiT : AdqN K (fun xs H Q => ∃ (x : V) (tp : Addr) (cs : List V) (t : Value) (us : List Value) (b : Bool), xs = [x, .ref tp] ∧ SqT K H tp cs ∧ Paired ClsV cs us ∧ TyX K H x t ∧ PySem.W.kitAny K t us = some b ∧ Q (.bl b) H) oIsiT := fun F cs H xs ds P Q s r ho pe => by
  unfold oIsiT at ho
  split at ho
  · split at ho
    · rename_i t ns e1 e2
      cases r with
      | cons r1 r2 =>
        cases r2 with
        | cons r2 r3 =>
          cases r3
          cases r2 with
          | tup h r =>
            obtain ⟨p1, p2⟩ := isiAny_ok e1 r e2
            exact ⟨_, _, _, _, _, _, rfl, ex_t pur_le h, p1, tyX_of r1 e1, p2, pe H cs _ _ s (.bl _) ho⟩
    · exact ho.elim
  · exact ho.elim
theorem call_isiD : CallR X (.builtin "isinstance") (fun xs H Q => ∃ (x : V) (tp : Addr) (cs : List V) (t : Value) (us : List Value) (b : Bool), xs = [x, .ref tp] ∧ SqT X.K H tp cs ∧ Paired ClsV cs us ∧ TyX X.K H x t ∧ PySem.W.kitAny X.K t us = some b ∧ Q (.bl b) H) := by
  intro pins s σ H xs us Q I r h
  obtain ⟨x, tp, cs, t, ws, b, rfl, hT, k, ty, e, q⟩ := h
  obtain ⟨u1, u2, rfl, r1, r2⟩ := vals2 r
  cases (show u2 = Value.ref tp from r2)
  obtain ⟨P, Z, p, hx⟩ := kit_of I r1 ty
  obtain ⟨its, rv, ⟨o, h1, h2, n, h3⟩, _⟩ := I.tuple hT
  have e3 := ClsV.all k rv
  subst e3
  obtain ⟨oc, od, dt, sl⟩ := o
  simp only at h2 h3
  subst h2 h3
  exact PySem.W.kia_tup Z I.kIn p h1 e hx fun tk => ⟨.bl b, H, I.tok tk, rfl, q⟩
def blsOf : List D → Option (List Bool)
  | [] => some []
  | .bl i :: r => (blsOf r).map (i :: ·)
  | _ => none
theorem blsOf_map (ns : List Bool) : blsOf (ns.map D.bl) = some ns := by
  induction ns with
  | nil => rfl
  | cons n ns ih => rw [List.map_cons]; unfold blsOf; rw [ih]; rfl
theorem blsOf_inv : ∀ {ds : List D} {ns : List Bool}, blsOf ds = some ns → ds = ns.map D.bl
  | [], ns, h => by cases h; rfl
  | d :: r, ns, h => by
    cases d <;> try (simp [blsOf] at h; done)
    unfold blsOf at h
    cases e : blsOf r with
    | none => rw [e] at h; cases h
    | some ms => rw [e] at h; cases h; rw [blsOf_inv e]; rfl
def oAll : DOn := fun ds cs P => match ds with
  | [.lst xs] => (match blsOf xs with
    | some bs => P (.bl (bs.all id)) cs
    | none => False)
  | _ => False
theorem adq_all : AdqN K (rAll K) oAll := fun F cs H xs ds P Q s r ho pe => by
  unfold oAll at ho
  split at ho
  · split at ho
    · rename_i ns e
      have e1 := blsOf_inv e
      cases r with
      | cons r1 r2 =>
        cases r2
        cases r1 with
        | lst h r =>
          rw [e1] at r
          have e2 := RepL.bls ns r
          subst e2
          exact ⟨_, ns, rfl, ex_l pur_le h, pe H cs _ _ s (.bl _) ho⟩
    · exact ho.elim
  · exact ho.elim
def oTuple : DOn := fun ds cs P => match ds with
  | [.lst xs] => P (.tup xs) cs
  | [.tup xs] => P (.tup xs) cs
  | _ => False
theorem adq_tuple : AdqN K (fun xs H Q => ∃ p ys, xs = [.ref p] ∧ ((SqL K H p ys ∧ ∀ l, H l = none → Q (.ref l) (upd H l (.tup ys))) ∨ (SqT K H p ys ∧ Q (.ref p) H))) oTuple := fun F cs H xs ds P Q s r ho pe => by
  unfold oTuple at ho
  split at ho
  · cases r with
    | cons r1 r2 =>
      cases r2
      cases r1 with
      | lst h r =>
        refine ⟨_, _, rfl, .inl ⟨ex_l pur_le h, fun l hl => ?_⟩⟩
        obtain ⟨s2, e2⟩ := s.new (o := .tup _) hl
        exact pe _ cs _ _ s2 (.tup (SqT.of e2) (r.mono s2.gr)) ho
  · cases r with
    | cons r1 r2 =>
      cases r2
      cases r1 with
      | tup h r => exact ⟨_, _, rfl, .inr ⟨ex_t pur_le h, pe H cs _ _ s (.tup h r) ho⟩⟩
  · exact ho.elim
def oSlT : D → Option Int → Option Int → Cs → DP → Prop := fun x lo hi cs P => match x with
  | .tup xs => P (.tup (cutD xs lo hi)) cs
  | _ => False
def oCatT : DO2 := fun x y cs P => match x, y with
  | .tup xs, .tup ys => xs.length + ys.length ≤ 100000 ∧ P (.tup (xs ++ ys)) cs
  | _, _ => False
theorem yi_zipL {G : Hp} {p q : Addr} {xs ys : List V} {ds es : List D} (h1 : SqL K G p xs) (r1 : RepL K G xs ds) (h2 : SqL K G q ys) (r2 : RepL K G ys es) : YI K (Itz K p q) G (List.zipWith (fun d e => D.tup [d, e]) ds es) where
  go := fun i d e F cs H s => by
    rw [List.getElem?_zipWith] at e
    cases e1 : ds[i]? with
    | none => rw [e1] at e; cases e
    | some x => cases e2 : es[i]? with
      | none => rw [e1, e2] at e; cases e
      | some y =>
        obtain ⟨v, a1, _⟩ := r1.get e1
        obtain ⟨u, a2, _⟩ := r2.get e2
        exact ⟨xs, ys, v, u, ex_l (s.gr.trans pur_le) h1, ex_l (s.gr.trans pur_le) h2, a1, a2⟩
  yld := fun i d e F cs H x H' s hy => by
    obtain ⟨T, v, u, rfl, hT, rfl, k1, k2⟩ := hy
    rw [List.getElem?_zipWith] at e
    cases e1 : ds[i]? with
    | none => rw [e1] at e; cases e
    | some dx => cases e2 : es[i]? with
      | none => rw [e1, e2] at e; cases e
      | some dy =>
        rw [e1, e2] at e
        cases e
        obtain ⟨v', a1, b1⟩ := r1.get e1
        obtain ⟨u', a2, b2⟩ := r2.get e2
        have c1 := k1 xs (ex_l (s.gr.trans pur_le) h1)
        have c2 := k2 ys (ex_l (s.gr.trans pur_le) h2)
        rw [a1] at c1; rw [a2] at c2
        obtain rfl := Option.some.inj c1
        obtain rfl := Option.some.inj c2
        obtain ⟨s2, e3⟩ := s.new (o := .tup [_, _]) hT
        exact ⟨s2, .tup (SqT.of e3) (.cons (b1.mono (s.gr.trans s2.gr)) (.cons (b2.mono (s.gr.trans s2.gr)) .nil))⟩
  stop := fun F cs H s => by
    refine ⟨xs, ys, ex_l (s.gr.trans pur_le) h1, ex_l (s.gr.trans pur_le) h2, ?_⟩
    rw [List.length_zipWith, r1.length, r2.length]; omega
theorem yi_zipT {G : Hp} {p q : Addr} {xs ys : List V} {ds es : List D} (h1 : SqT K G p xs) (r1 : RepL K G xs ds) (h2 : SqT K G q ys) (r2 : RepL K G ys es) : YI K (RZ.ItzT K p q) G (List.zipWith (fun d e => D.tup [d, e]) ds es) where
  go := fun i d e F cs H s => by
    rw [List.getElem?_zipWith] at e
    cases e1 : ds[i]? with
    | none => rw [e1] at e; cases e
    | some x => cases e2 : es[i]? with
      | none => rw [e1, e2] at e; cases e
      | some y =>
        obtain ⟨v, a1, _⟩ := r1.get e1
        obtain ⟨u, a2, _⟩ := r2.get e2
        exact ⟨xs, ys, v, u, ex_t (s.gr.trans pur_le) h1, ex_t (s.gr.trans pur_le) h2, a1, a2⟩
  yld := fun i d e F cs H x H' s hy => by
    obtain ⟨T, v, u, rfl, hT, rfl, k1, k2⟩ := hy
    rw [List.getElem?_zipWith] at e
    cases e1 : ds[i]? with
    | none => rw [e1] at e; cases e
    | some dx => cases e2 : es[i]? with
      | none => rw [e1, e2] at e; cases e
      | some dy =>
        rw [e1, e2] at e
        cases e
        obtain ⟨v', a1, b1⟩ := r1.get e1
        obtain ⟨u', a2, b2⟩ := r2.get e2
        have c1 := k1 xs (ex_t (s.gr.trans pur_le) h1)
        have c2 := k2 ys (ex_t (s.gr.trans pur_le) h2)
        rw [a1] at c1; rw [a2] at c2
        obtain rfl := Option.some.inj c1
        obtain rfl := Option.some.inj c2
        obtain ⟨s2, e3⟩ := s.new (o := .tup [_, _]) hT
        exact ⟨s2, .tup (SqT.of e3) (.cons (b1.mono (s.gr.trans s2.gr)) (.cons (b2.mono (s.gr.trans s2.gr)) .nil))⟩
  stop := fun F cs H s => by
    refine ⟨xs, ys, ex_t (s.gr.trans pur_le) h1, ex_t (s.gr.trans pur_le) h2, ?_⟩
    rw [List.length_zipWith, r1.length, r2.length]; omega
def iZp (w : WA) : WI := fun ρ cs P Z => w ρ cs (fun ds cs1 => match ds with
  | [.lst xs, .lst ys] => P (List.zipWith (fun d e => D.tup [d, e]) xs ys) cs1
  | [.tup xs, .tup ys] => P (List.zipWith (fun d e => D.tup [d, e]) xs ys) cs1
  | _ => False) Z
theorem zp_inv {ds : List D} {g : List D → List D → Prop} (h : (match ds with | [D.lst xs, D.lst ys] => g xs ys | [D.tup xs, D.tup ys] => g xs ys | _ => False)) : ∃ xs ys, (ds = [.lst xs, .lst ys] ∨ ds = [.tup xs, .tup ys]) ∧ g xs ys := by
  match ds, h with
  | [D.lst xs, D.lst ys], h => exact ⟨xs, ys, .inl rfl, h⟩
  | [D.tup xs, D.tup ys], h => exact ⟨xs, ys, .inr rfl, h⟩
theorem di_zip {e2 : Expr} {p tpos : Pos} {elts : List Expr} {kk : Nat} (hg : Gl X "zip") (hm : X.mg "zip" = none) (ha : DA X W [e, e2] w)
    (hs : starEach [e, e2] X.env = (false, eval e X.env) :: starEach [e2] X.env := by rfl) (hpl : (backTo pos (starEach [e2] X.env)).any (·.1) = false := by rfl) :
    DI X W (.Tuple elts kk tpos) (.Call (.Name "zip" p) [e, e2] [] pos) (iZp w) := PI.imp (RZ.pi_zipA hg hm ha hs hpl) fun σ H R hq => by
  obtain ⟨F, cs, ρ, P, Z, s, re, hw, pe, px⟩ := hq
  refine ⟨F, cs, ρ, _, Z, s, re, hw, fun H1 cs1 vs ds s1 r1 l1 h1 => ?_, px⟩
  obtain ⟨xs, ys, e1, h⟩ := zp_inv h1
  rcases e1 with e1 | e1
  · subst e1
    cases r1 with
    | cons r1 r2 =>
      cases r2 with
      | cons r2 r3 =>
        cases r3
        cases r1 with
        | lst a1 b1 =>
          cases r2 with
          | lst a2 b2 => exact ⟨_, _, _, _, rfl, .inl ⟨ex_l pur_le a1, ex_l pur_le a2, pe H1 cs1 _ _ s1 (yi_zipL a1 b1 a2 b2) h⟩⟩
  · subst e1
    cases r1 with
    | cons r1 r2 =>
      cases r2 with
      | cons r2 r3 =>
        cases r3
        cases r1 with
        | tup a1 b1 =>
          cases r2 with
          | tup a2 b2 => exact ⟨_, _, _, _, rfl, .inr ⟨ex_t pur_le a1, ex_t pur_le a2, pe H1 cs1 _ _ s1 (yi_zipT a1 b1 a2 b2) h⟩⟩
end
abbrev W0 : WX := fun _ _ _ _ => False
abbrev Z0 : XZ := fun _ _ => False
section
variable {X : Cx} {W : WX} {K : PySem.W.Frag} {σ : L2.St} {H : Hp}
def compW (g : WG) (wt : WT) (we : DL.WE) : List D → DL.Env → Cs → List D → (List D → Cs → Prop) → Prop
  | [], _, cs, acc, P => P acc cs
  | d :: r, ρ, cs, acc, P => g d ρ fun ρ1 => wt ρ1 cs (fun k cs1 => (k = true → we ρ1 cs1 (fun y cs2 => compW g wt we r ρ cs2 (acc ++ [y]) P) Z0) ∧ (k = false → compW g wt we r ρ cs1 acc P)) Z0
def wipeD (ρ : DL.Env) : List Nat → DL.Env
  | [] => ρ
  | v :: vs => (wipeD ρ vs).set v none
def wComp (wi : WI) (g : WG) (wt : WT) (we : DL.WE) (vs : List Nat) : DL.WE := fun ρ cs P Z => wi ρ cs (fun xs cs1 => xs.length ≤ 100000 ∧ compW g wt we xs (wipeD ρ vs) cs1 [] (fun ds cs2 => P (.lst ds) cs2)) Z
def wYes : WT := fun _ cs P _ => P true cs
theorem yes_ok {Q : Bool → Hp → Prop} (h : lT K W wYes σ H Q) : tYes σ H Q := by
  obtain ⟨F, cs, ρ, P, Z, s, re, hw, pe, px⟩ := h
  exact pe H cs true s hw
theorem PTs.imp {X : Cx} {ifs : List Expr} {t t' : TT} (h : PTs X ifs t) (i : ∀ σ H Q, t' σ H Q → t σ H Q) : PTs X ifs t' := ⟨fun pins s σ H Q I q => h.run pins s σ H Q I (i σ H Q q)⟩
theorem dts_nil : PTs X [] (lT X.K W wYes) := PTs.imp pts_nil fun _ _ _ h => yes_ok h
theorem dts_one {c : Expr} {wt : WT} (h : DT X W c wt) : PTs X [c] (lT X.K W wt) := pts_one h
theorem RepE.setN {G : Hp} {σ : L2.St} {ρ : DL.Env} (r : RepE K G σ ρ) : ∀ i, RepE K G (σ.set i none) (ρ.set i none) := fun i => by
  induction r generalizing i with
  | nil => exact .nil
  | cons h r ih => cases i with
    | zero => exact .cons .skip r
    | succ i => exact .cons h (ih i)
theorem RepE.wipe {G : Hp} {σ : L2.St} {ρ : DL.Env} (r : RepE K G σ ρ) : ∀ vs, RepE K G (L2.wipe σ vs) (wipeD ρ vs)
  | [] => r
  | v :: vs => (RepE.wipe r vs).setN v
theorem set_none_comm (σ : L2.St) (i j : Nat) (v : Option V) (h : i ≠ j) : (σ.set i v).set j none = (σ.set j none).set i v := (List.set_comm v none h)
theorem wipe_set {σ : L2.St} {i : Nat} {v : Option V} : ∀ {vs : List Nat}, i ∈ vs → L2.wipe (σ.set i v) vs = L2.wipe σ vs
  | [], h => by cases h
  | a :: vs, h => by
    unfold L2.wipe
    by_cases hi : i ∈ vs
    · rw [wipe_set hi]
    · have e : i = a := by
        rcases List.mem_cons.mp h with z | z
        · exact z
        · exact absurd z hi
      subst e
      have key : ∀ (vs : List Nat), i ∉ vs → L2.wipe (σ.set i v) vs = (L2.wipe σ vs).set i v := by
        intro vs
        induction vs with
        | nil => intro _; rfl
        | cons b bs ih =>
          intro hb
          have h1 : i ≠ b := fun z => hb (z ▸ List.mem_cons_self ..)
          unfold L2.wipe
          rw [ih fun z => hb (List.mem_cons_of_mem _ z), set_none_comm _ _ _ _ h1]
      rw [key vs hi, List.set_set]
theorem wipe_wipe {σ : L2.St} : ∀ {vs : List Nat}, L2.wipe (L2.wipe σ vs) vs = L2.wipe σ vs := by
  intro vs
  have key : ∀ (us : List Nat), (∀ u ∈ us, u ∈ vs) → L2.wipe (L2.wipe σ us) vs = L2.wipe σ vs := by
    intro us
    induction us with
    | nil => intro _; rfl
    | cons a us ih =>
      intro h
      have e : L2.wipe σ (a :: us) = (L2.wipe σ us).set a none := rfl
      rw [e, wipe_set (h a (List.mem_cons_self ..)), ih fun u hu => h u (List.mem_cons_of_mem _ hu)]
  exact key vs fun _ h => h
/-- a thing of ours is put aside -/
theorem ft_upd {F : Hp} {p : Addr} {o : HO} (h : ∀ a xs, F a ≠ some (.tup xs)) (ho : ∀ xs, o ≠ .tup xs) : ∀ a xs, upd F p o a ≠ some (.tup xs) := fun a xs e => by
  by_cases hb : a = p
  · rw [hb, upd_same] at e; exact ho xs (Option.some.inj e)
  · rw [upd_ne hb] at e; exact h a xs e
theorem ft_back {F : Hp} {p : Addr} {o : HO} (h : ∀ a xs, upd F p o a ≠ some (.tup xs)) (hF : F p = none) : ∀ a xs, F a ≠ some (.tup xs) := fun a xs e => by
  refine h a xs ?_
  rw [upd_ne (fun z => by rw [z, hF] at e; cases e)]; exact e
theorem Sta.aside {F G0 : Hp} {cs : Cs} {p : Addr} {o : HO} (s : Sta K F G0 cs H) (h : H p = none) (ho : ∀ xs, o ≠ .tup xs := by intro _ z; cases z) : Sta K (upd F p o) (pur F cs H) cs (upd H p o) := by
  obtain ⟨hF, hc⟩ := s.notin h
  have g : Ex (pur F cs H) (pur (upd F p o) cs (upd H p o)) := fun b u e => by
    obtain ⟨e1, e2, e3⟩ := pur_of e
    have hb : b ≠ p := ne_of_none e1 h
    rw [pur_at (by rw [upd_ne hb]; exact e2) e3, upd_ne hb]; exact e1
  refine ⟨fun b u e => ?_, g, s.nd, fun a ha => ?_, fun a m hm => ?_, ft_upd s.ft ho⟩
  · by_cases hb : b = p
    · subst hb; rw [upd_same] at e ⊢; exact e
    · rw [upd_ne hb] at e ⊢; exact s.fr b u e
  · rw [upd_ne (show a ≠ p from fun z => hc (by rw [← z]; exact ha))]; exact s.ap a ha
  · obtain ⟨u, hu, q⟩ := s.ow a m hm
    exact ⟨u, by rw [upd_ne (ne_of_none hu h)]; exact hu, q.mono g⟩
theorem Sta.turn {F G0 : Hp} {cs : Cs} {p : Addr} {o o' : HO} (s : Sta K (upd F p o) G0 cs H) (hF : F p = none) (ho : ∀ xs, o' ≠ .tup xs := by intro _ z; cases z) : Sta K (upd F p o') G0 cs (upd H p o') ∧ pur (upd F p o') cs (upd H p o') = pur (upd F p o) cs H := by
  have e : pur (upd F p o') cs (upd H p o') = pur (upd F p o) cs H := by
    funext b
    unfold pur
    by_cases hb : b = p
    · subst hb
      rw [if_pos (.inl (by rw [upd_same]; rfl)), if_pos (.inl (by rw [upd_same]; rfl))]
    · rw [upd_ne hb, upd_ne hb, upd_ne hb]
  refine ⟨⟨fun b u h => ?_, by rw [e]; exact s.gr, s.nd, fun a ha => ?_, fun a m hm => ?_, ft_upd (ft_back s.ft hF) ho⟩, e⟩
  · by_cases hb : b = p
    · subst hb; rw [upd_same] at h ⊢; exact h
    · rw [upd_ne hb] at h ⊢
      exact s.fr b u (by rw [upd_ne hb]; exact h)
  · have := s.ap a ha
    by_cases hb : a = p
    · subst hb; rw [upd_same] at this; cases this
    · rw [upd_ne hb] at this ⊢; exact this
  · obtain ⟨u, hu, q⟩ := s.ow a m hm
    have ha := s.ap a (List.mem_map.mpr ⟨(a, m), hm, rfl⟩)
    have hb : a ≠ p := fun z => by subst z; rw [upd_same] at ha; cases ha
    exact ⟨u, by rw [upd_ne hb]; exact hu, by rw [e]; exact q⟩
/-- .. and is data again -/
theorem Sta.back {F G0 : Hp} {cs : Cs} {p : Addr} {o : HO} (s : Sta K (upd F p o) G0 cs H) (hF : F p = none) : Sta K F G0 cs H ∧ Ex (pur (upd F p o) cs H) (pur F cs H) ∧ pur F cs H p = some o := by
  have hc : p ∉ adr cs := fun z => by
    have := s.ap p z
    rw [upd_same] at this; cases this
  have g : Ex (pur (upd F p o) cs H) (pur F cs H) := fun b u e => by
    obtain ⟨e1, e2, e3⟩ := pur_of e
    by_cases hb : b = p
    · subst hb; rw [upd_same] at e2; cases e2
    · rw [upd_ne hb] at e2
      rw [pur_at e2 e3]; exact e1
  refine ⟨⟨fun b u e => ?_, s.gr.trans g, s.nd, fun a ha => ?_, fun a m hm => ?_, ft_back s.ft hF⟩, g, ?_⟩
  · refine s.fr b u ?_
    rw [upd_ne (fun z => by rw [z, hF] at e; cases e)]; exact e
  · have := s.ap a ha
    by_cases hb : a = p
    · exact absurd (hb ▸ ha) hc
    · rw [upd_ne hb] at this; exact this
  · obtain ⟨u, hu, q⟩ := s.ow a m hm
    exact ⟨u, hu, q.mono g⟩
  · rw [pur_at hF hc]
    exact s.fr p o upd_same
/-- how a target of a comprehension binds: its slots alone -/
def GOk (K : PySem.W.Frag) (g : TG) (gd : WG) (vs : List Nat) : Prop := ∀ F cs H σ ρ v d k (Q : L2.St → Hp → Prop), Sta K F (pur F cs H) cs H → RepE K (pur F cs H) σ ρ → Rep K (pur F cs H) v d → L2.wipe σ vs = σ → gd d ρ k →
  (∀ σ' ρ', L2.wipe σ' vs = σ → RepE K (pur F cs H) σ' ρ' → k ρ' → Q σ' H) → g v σ H Q
theorem gok_name {i : Nat} {vs : List Nat} (h : i ∈ vs) : GOk K (gName i) (gN i) vs := fun F cs H σ ρ v d k Q s re r hw hk q => by
  refine q _ _ ?_ (re.set r i) hk
  rw [wipe_set h, hw]
theorem gok_two {i j : Nat} {vs : List Nat} (hi : i ∈ vs) (hj : j ∈ vs) : GOk K (gTup K 2 (gCons (gName i) (gCons (gName j) gNil))) (gT 2 (gCn (gN i) (gCn (gN j) gNl))) vs := fun F cs H σ ρ v d k Q s re r hw hk q => by
  cases d <;> try exact hk.elim
  rename_i ds
  obtain ⟨hl, hk⟩ := hk
  cases r with
  | tup h r =>
    obtain ⟨d1, d2, rfl⟩ : ∃ d1 d2, ds = [d1, d2] := by
      cases ds with
      | nil => cases hl
      | cons d1 ds => cases ds with
        | nil => cases hl
        | cons d2 ds => cases ds with
          | nil => exact ⟨d1, d2, rfl⟩
          | cons _ _ => simp at hl
    cases r with
    | cons r1 r =>
      cases r with
      | cons r2 r =>
        cases r
        exact ⟨_, _, rfl, ex_t pur_le h, rfl, _, _, rfl, _, _, rfl, rfl, q _ _ (by rw [wipe_set hj, wipe_set hi, hw]) ((re.set r1 i).set r2 j) hk⟩
theorem lc_ok {wi : WI} {g : TG} {gd : WG} {wt : WT} {we : DL.WE} {vs : List Nat} (gk : GOk K g gd vs) {Q : VK} : lE K W (wComp wi gd wt we vs) σ H Q → tLc (lI K W wi) g (lT K W0 wt) (lE K W0 we) vs σ H Q := by
  rintro ⟨F, cs, ρ, P, Z, s, re, hw, pe, px⟩
  refine ⟨F, cs, ρ, _, Z, s, re, hw, fun H1 cs1 J xs s1 yi h1 => ?_, px⟩
  intro D hD
  obtain ⟨hlen, h1⟩ := h1
  have hFD : F D = none := s1.fr.back hD
  have reW : RepE K (pur F cs1 H1) (L2.wipe σ vs) (wipeD ρ vs) := (re.mono s1.gr).wipe vs
  refine ⟨fun i m H' => i ≤ xs.length ∧ m = xs.length - i ∧ ∃ cs' acc vacc, Sta K (upd F D (.lst vacc)) (pur F cs1 H1) cs' H' ∧ RepL K (pur (upd F D (.lst vacc)) cs' H') vacc acc ∧ acc.length ≤ i ∧ compW gd wt we (xs.drop i) (wipeD ρ vs) cs' acc (fun ds cs2 => P (.lst ds) cs2),
    ⟨xs.length, Nat.zero_le _, rfl, cs1, [], [], s1.aside hD, .nil, Nat.le_refl _, h1⟩, ?_⟩
  rintro i m H2 ⟨hi, rfl, cs2, acc, vacc, s2, ra, hla, h2⟩
  cases e : xs.drop i with
  | nil =>
    have hl : xs.length ≤ i := by
      have z := congrArg List.length e
      rw [List.length_drop] at z
      have z' : xs.length - i = 0 := z
      omega
    have hie : i = xs.length := by omega
    rw [e] at h2
    obtain ⟨s3, g3, e3⟩ := s2.back hFD
    refine .inl ⟨by rw [hie]; exact yi.stop _ cs2 H2 s2, pe H2 cs2 _ _ (s3.from_ s1.gr) (.lst (SqL.of e3) (ra.mono g3)) h2⟩
  | cons d r =>
    obtain ⟨e1, e2⟩ := drop_cons e
    have hlt : i < xs.length := (List.getElem?_eq_some_iff.mp e1).1
    rw [e] at h2
    refine .inr ⟨yi.go i d e1 _ cs2 H2 s2, fun H' => ∃ cs' acc vacc, Sta K (upd F D (.lst vacc)) (pur F cs1 H1) cs' H' ∧ RepL K (pur (upd F D (.lst vacc)) cs' H') vacc acc ∧ acc.length ≤ i + 1 ∧ compW gd wt we r (wipeD ρ vs) cs' acc (fun ds cs2 => P (.lst ds) cs2), ?_, ?_⟩
    · rintro H' ⟨cs', acc', vacc', s', ra', hl', h'⟩
      exact ⟨xs.length - (i + 1), by omega, by omega, rfl, cs', acc', vacc', s', ra', hl', by rw [e2]; exact h'⟩
    · intro x H3 hy
      obtain ⟨s3, r3⟩ := yi.yld i d e1 _ cs2 H2 x H3 s2 hy
      refine gk _ cs2 H3 _ (wipeD ρ vs) x d _ _ s3.self (reW.mono (s2.gr.trans s3.gr)) r3 wipe_wipe h2 fun σ4 ρ4 hw4 re4 h4 => ⟨hw4.trans rfl, ?_⟩
      refine ⟨_, cs2, ρ4, _, Z0, s3.self, re4, h4, fun H5 cs5 k s5 h5 => ?_, fun _ _ _ _ _ _ z => z⟩
      cases k with
      | false => exact iteF ⟨cs5, acc, vacc, s5.from_ (s2.gr.trans s3.gr), ra.mono (s3.gr.trans s5.gr), Nat.le_succ_of_le hla, h5.2 rfl⟩
      | true =>
        refine iteT ⟨_, cs5, ρ4, _, Z0, s5.self, re4.mono s5.gr, h5.1 rfl, fun H6 cs6 y dy s6 r6 h6 => ?_, fun _ _ _ _ _ _ z => z⟩
        have g6 := (s2.gr.trans s3.gr).trans (s5.gr.trans s6.gr)
        have s7 := (s6.from_ ((s2.gr.trans s3.gr).trans s5.gr))
        obtain ⟨s8, e8⟩ := s7.turn (o' := .lst (vacc ++ [y])) hFD
        refine ⟨vacc, s6.fr D _ upd_same, ?_, cs6, acc ++ [dy], vacc ++ [y], s8, ?_, by rw [List.length_append]; exact Nat.succ_le_succ hla, h6⟩
        · rw [ra.length]; exact Nat.lt_of_le_of_lt (Nat.le_trans hla hi) (Nat.lt_of_le_of_lt hlen (by decide))
        · rw [e8]
          exact (ra.mono (s3.gr.trans (s5.gr.trans s6.gr))).append (.cons r6 .nil)
variable {elt tg iter : Expr} {ifs : List Expr} {scope : Scope} {own : List (Str × Nat)} {pos : Pos} {wi : WI} {g : TG} {gd : WG} {wt : WT} {we : DL.WE}
theorem d_lc (hc : X.calm = true) (hN : X.N.Nodup) (hi : DI X W tg iter wi) (ok : BlkOk X.N X.env.scope scope own) (gk : GOk X.K g gd (own.map (·.2)))
    (hg : ∀ (s : Shared) (H : Hp) (C : Addr) (cl : List (Str × Addr)) (fp : List Addr), PG (X.blk s H scope (compEnvC scope cl C X.env) fp) tg g)
    (ht : ∀ (s : Shared) (H : Hp) (C : Addr) (cl : List (Str × Addr)) (fp : List Addr), PTs (X.blk s H scope (compEnvC scope cl C X.env) fp) ifs (lT X.K W0 wt))
    (he : ∀ (s : Shared) (H : Hp) (C : Addr) (cl : List (Str × Addr)) (fp : List Addr), DE (X.blk s H scope (compEnvC scope cl C X.env) fp) W0 elt we) (hs : ∀ x, foldedSetIterable iter X.env x = pure x := by intro _; rfl) :
    DE X W (.ListComp elt [⟨tg, iter, ifs, 0⟩] scope pos) (wComp wi gd wt we (own.map (·.2))) := PE.imp (pe_lc hc hN hi ok hg ht he hs) fun _ _ _ h => lc_ok gk h
theorem ds_setLc {i : Nat} {y : Str} {py spos : Pos} (hc : X.calm = true) (hN : X.N.Nodup) (hy : X.N[i]? = some y) (hyl : X.env.scope.names.lookup y = some .local)
    (hsw : swapsWith (.ListComp elt [⟨tg, iter, ifs, 0⟩] scope pos) (some (.Name y py)) spos.line X.env = pure true) (hi : DI X W tg iter wi) (ok : BlkOk X.N X.env.scope scope own) (gk : GOk X.K g gd (own.map (·.2)))
    (hg : ∀ (s : Shared) (H : Hp) (C : Addr) (cl : List (Str × Addr)) (fp : List Addr), PG (X.blk s H scope (compEnvC scope cl C X.env) fp) tg g)
    (ht : ∀ (s : Shared) (H : Hp) (C : Addr) (cl : List (Str × Addr)) (fp : List Addr), PTs (X.blk s H scope (compEnvC scope cl C X.env) fp) ifs (lT X.K W0 wt))
    (he : ∀ (s : Shared) (H : Hp) (C : Addr) (cl : List (Str × Addr)) (fp : List Addr), DE (X.blk s H scope (compEnvC scope cl C X.env) fp) W0 elt we) (hs : ∀ x, foldedSetIterable iter X.env x = pure x := by intro _; rfl) :
    DS X W (.Assign [.Name y py] (.ListComp elt [⟨tg, iter, ifs, 0⟩] scope pos) spos) (sAsg (wComp wi gd wt we (own.map (·.2))) (gN i)) :=
  PS.imp (ps_setLc hc hN hy hyl hsw hi ok hg ht he hs) fun E σ H h => by
    obtain ⟨F, cs, ρ, f, s, re, hw, pe⟩ := h
    have h2 : lE X.K W (wComp wi gd wt we (own.map (·.2))) σ H (fun x H1 => gName i x σ H1 E.nx) := ⟨F, cs, ρ, _, _, s, re, hw, fun H1 cs1 v d s1 r1 h1 => pe.nx H1 cs1 _ _ s1 ((re.mono s1.gr).set r1 i) h1, pe.px re⟩
    exact lc_ok gk h2
end
section
variable {ρ : DL.Env} {cs : Cs} {P : DP} {Z : XZ} {wa wb we : DL.WE} {w : WA} {wt : WT}
theorem r_isi {d : D} {n : String} {k : Bool} (e : isiD d n = some k) (h : P (.bl k) cs) : oIsi [d, .opq (.ty n)] cs P := by
  unfold oIsi; simp only [e]; exact h
theorem r_isiT {d : D} {n : String} (e : isiD d n = some true) (h : P (.bl true) cs) : oIsi [d, .opq (.ty n)] cs P := r_isi e h
theorem r_isiF {d : D} {n : String} (e : isiD d n = some false) (h : P (.bl false) cs) : oIsi [d, .opq (.ty n)] cs P := r_isi e h
theorem r_isiTT {d : D} {ts : List D} {t : String} {ns : List String} (e : tyS d = some t) (e2 : tyNames ts = some ns) (e3 : (ns.any fun n => isT t n) = true) (h : P (.bl true) cs) : oIsiT [d, .tup ts] cs P := by
  unfold oIsiT; simp only [e, e2, e3]; exact h
theorem r_isiTF {d : D} {ts : List D} {t : String} {ns : List String} (e : tyS d = some t) (e2 : tyNames ts = some ns) (e3 : (ns.any fun n => isT t n) = false) (h : P (.bl false) cs) : oIsiT [d, .tup ts] cs P := by
  unfold oIsiT; simp only [e, e2, e3]; exact h
theorem r_all {xs : List D} {ns : List Bool} (e : blsOf xs = some ns) (h : P (.bl (ns.all id)) cs) : oAll [.lst xs] cs P := by
  unfold oAll; simp only [e]; exact h
theorem r_tupleL {xs : List D} (h : P (.tup xs) cs) : oTuple [.lst xs] cs P := h
theorem r_tupleT {xs : List D} (h : P (.tup xs) cs) : oTuple [.tup xs] cs P := h
theorem r_catT {xs ys : List D} (hl : xs.length + ys.length ≤ 100000) (h : P (.tup (xs ++ ys)) cs) : oCatT (.tup xs) (.tup ys) cs P := ⟨hl, h⟩
theorem r_sl {o : D → Option Int → Option Int → Cs → DP → Prop} {wl wh : WO} (h : we ρ cs (fun x cs1 => wl ρ cs1 (fun l cs2 => wh ρ cs2 (fun u cs3 => o x l u cs3 P) Z) Z) Z) : wSl o we wl wh ρ cs P Z := h
theorem r_noPart {R : Option Int → Cs → Prop} (h : R none cs) : wNoPart ρ cs R Z := h
theorem r_part {R : Option Int → Cs → Prop} (h : we ρ cs (fun x cs1 => match x with | .int i => R (some i) cs1 | _ => False) Z) : wPart we ρ cs R Z := h
theorem r_slL {xs : List D} {lo hi : Option Int} (h : P (.lst (DL.cutD xs lo hi)) cs) : oSlL (.lst xs) lo hi cs P := h
theorem r_slT {xs : List D} {lo hi : Option Int} (h : P (.tup (DL.cutD xs lo hi)) cs) : oSlT (.tup xs) lo hi cs P := h
theorem r_zipL {xs ys : List D} {R : List D → Cs → Prop} (h : w ρ cs (fun ds cs1 => match ds with | [.lst xs, .lst ys] => R (List.zipWith (fun d e => D.tup [d, e]) xs ys) cs1 | [.tup xs, .tup ys] => R (List.zipWith (fun d e => D.tup [d, e]) xs ys) cs1 | _ => False) Z) : iZp w ρ cs R Z := h
theorem r_yes {R : Bool → Cs → Prop} (h : R true cs) : wYes ρ cs R Z := h
theorem r_comp {wi : WI} {g : WG} {vs : List Nat} (h : wi ρ cs (fun xs cs1 => xs.length ≤ 100000 ∧ compW g wt we xs (wipeD ρ vs) cs1 [] (fun ds cs2 => P (.lst ds) cs2)) Z) : wComp wi g wt we vs ρ cs P Z := h
/-- .. by an invariant: the place, what is made so far, the things that change -/
theorem r_compI {g : WG} {R : List D → Cs → Prop} (I : Nat → List D → Cs → Prop) : ∀ (xs acc : List D) (k : Nat) {cs : Cs}, I k acc cs →
    (∀ i d acc cs (N : List D → Cs → Prop), xs[i]? = some d → I (k + i) acc cs → (∀ acc' cs', I (k + i + 1) acc' cs' → N acc' cs') → g d ρ fun ρ1 => wt ρ1 cs (fun b cs1 => (b = true → we ρ1 cs1 (fun y cs2 => N (acc ++ [y]) cs2) Z0) ∧ (b = false → N acc cs1)) Z0) →
    (∀ acc cs, I (k + xs.length) acc cs → R acc cs) → compW g wt we xs ρ cs acc R
  | [], acc, k, cs, h0, hs, hd => hd acc cs h0
  | d :: r, acc, k, cs, h0, hs, hd => by
    refine hs 0 d acc cs (fun acc' cs' => compW g wt we r ρ cs' acc' R) rfl h0 fun acc' cs' h1 => r_compI I r acc' (k + 1) h1 (fun i d acc cs N e hi hn => ?_) (fun acc cs h => ?_)
    · have e1 : k + (i + 1) = k + 1 + i := by omega
      refine hs (i + 1) d acc cs N e (by rw [e1]; exact hi) fun acc' cs' hh => hn acc' cs' (by rw [← e1]; exact hh)
    · refine hd acc cs ?_
      have e1 : k + (d :: r).length = k + 1 + r.length := by rw [List.length_cons]; omega
      rw [e1]; exact h
theorem r_comp0 {g : WG} {R : List D → Cs → Prop} (I : Nat → List D → Cs → Prop) {xs : List D} (h0 : I 0 [] cs)
    (hs : ∀ i d acc cs (N : List D → Cs → Prop), xs[i]? = some d → I i acc cs → (∀ acc' cs', I (i + 1) acc' cs' → N acc' cs') → g d ρ fun ρ1 => wt ρ1 cs (fun b cs1 => (b = true → we ρ1 cs1 (fun y cs2 => N (acc ++ [y]) cs2) Z0) ∧ (b = false → N acc cs1)) Z0)
    (hd : ∀ acc cs, I xs.length acc cs → R acc cs) : compW g wt we xs ρ cs [] R :=
  r_compI I xs [] 0 h0 (fun i d acc cs N e hi hn => hs i d acc cs N e (by rw [Nat.zero_add] at hi; exact hi) (by rw [Nat.zero_add] at hn; exact hn)) (fun acc cs h => hd acc cs (by rw [Nat.zero_add] at h; exact h))
theorem take_more {α : Type} {l : List α} {i : Nat} {x : α} (h : l[i]? = some x) : l.take (i + 1) = l.take i ++ [x] := by
  obtain ⟨h1, h2⟩ := List.getElem?_eq_some_iff.mp h
  rw [List.take_succ, h]
  rfl
/-- each item that keeps p makes its f; nothing else changes -/
theorem r_compFM {g : WG} {R : List D → Cs → Prop} (p : D → Bool) (f : D → D) {xs : List D}
    (hs : ∀ d (N : DP) (N' : Cs → Prop), d ∈ xs → (p d = true → N (f d) cs) → (p d = false → N' cs) → g d ρ fun ρ1 => wt ρ1 cs (fun b cs1 => (b = true → we ρ1 cs1 N Z0) ∧ (b = false → N' cs1)) Z0)
    (hd : R ((xs.filter p).map f) cs) : compW g wt we xs ρ cs [] R := by
  refine r_comp0 (fun i acc cs' => acc = ((xs.take i).filter p).map f ∧ cs' = cs) ⟨rfl, rfl⟩ ?_ ?_
  · rintro i d acc cs' N e ⟨rfl, rfl⟩ hN
    refine hs d _ _ (List.mem_of_getElem? e) (fun h => hN _ _ ⟨?_, rfl⟩) (fun h => hN _ _ ⟨?_, rfl⟩)
    · rw [take_more e, List.filter_append, List.map_append, List.filter_cons_of_pos h]; rfl
    · rw [take_more e, List.filter_append, List.filter_cons_of_neg (by rw [h]; decide), List.filter_nil, List.append_nil]
  · rintro acc cs' ⟨rfl, rfl⟩
    rw [List.take_length]
    exact hd
theorem r_compM {g : WG} {R : List D → Cs → Prop} (f : D → D) {xs : List D}
    (hs : ∀ d (N : DP) (N' : Cs → Prop), d ∈ xs → N (f d) cs → g d ρ fun ρ1 => wt ρ1 cs (fun b cs1 => (b = true → we ρ1 cs1 N Z0) ∧ (b = false → N' cs1)) Z0)
    (hd : R (xs.map f) cs) : compW g wt we xs ρ cs [] R := by
  refine r_compFM (fun _ => true) f (fun d N N' h h1 h2 => hs d N N' h (h1 rfl)) ?_
  rw [List.filter_eq_self.mpr fun _ _ => rfl]
  exact hd
end
end DL
namespace DL
open PySem PySem.Spec PyProof.Rows L2
/-- what the bag holds: the script's copy, how many were taken, what is left of one, a number that goes round, a count -/
def BagOk (m : MO) : Prop := ∃ (cells : List Int) (k : Nat) (rest seed cnt : Int), m = .lst [.lst (cells.map D.int), .int (k : Int), .int rest, .int seed, .int cnt] ∧ 0 ≤ rest ∧ 0 ≤ seed ∧ seed < 2147483629
def BagIn (p : Addr) (cs : Cs) : Prop := ∃ b, look p cs = some b ∧ BagOk b
theorem BagIn.put {p : Addr} {cs : Cs} {b : MO} (h : BagIn p cs) (hb : BagOk b) : BagIn p (put p b cs) := by
  obtain ⟨b0, e, _⟩ := h
  exact ⟨b, look_put e, hb⟩
structure BagStep (p : Addr) (cs cs' : Cs) : Prop where
  bag : BagIn p cs'
  eq : ∃ b, cs' = put p b cs
theorem BagStep.trans {p : Addr} {c0 c1 c2 : Cs} (a : BagStep p c0 c1) (b : BagStep p c1 c2) : BagStep p c0 c2 := by
  obtain ⟨b1, e1⟩ := a.eq
  obtain ⟨b2, e2⟩ := b.eq
  exact ⟨b.bag, b2, by rw [e2, e1, put_put]⟩
theorem BagStep.refl {p : Addr} {cs : Cs} (h : BagIn p cs) : BagStep p cs cs := by
  obtain ⟨b, e, _⟩ := id h
  exact ⟨h, b, (put_look e).symm⟩
theorem BagStep.look {p q : Addr} {cs cs' : Cs} (a : BagStep p cs cs') (h : q ≠ p) : look q cs' = look q cs := by
  obtain ⟨b, e⟩ := a.eq
  rw [e, look_put_ne h]
def dB (l t w h : Rat) : D := .tup [dR l, dR t, dR w, dR h]
def posD : D → Bool
  | .tup (.int a :: _) => decide (0 < a)
  | _ => false
theorem posD_dR (r : Rat) : posD (dR r) = decide (0 < r) := by
  show decide (0 < r.num) = decide (0 < r)
  refine decide_eq_decide.mpr ?_
  rw [Rat.lt_iff]; simp
theorem p1000 {n : Nat} (h : n ≤ 20) : (1000 : Int) ^ n ≤ 1000 ^ 20 := by
  exact_mod_cast Nat.pow_le_pow_right (n := 1000) (by decide) h
theorem Sz.ofInt {n : Int} {k : Nat} (h : n.natAbs < 2 ^ k) (hk : 1 < 2 ^ k) : Sz k (n : Rat) := ⟨h, hk⟩
theorem ofInt_pos {n : Int} (h : 0 < n) : (0 : Rat) < (n : Rat) := Rat.intCast_pos.mpr h
def isNonD : D → Bool
  | .non => true
  | .opq v => decide (v = .non)
  | _ => false
def oIsN : DO2 := fun x y cs P => match y with
  | .non => P (.bl (isNonD x)) cs
  | _ => False
def oNotN : DO2 := fun x y cs P => match y with
  | .non => P (.bl (!isNonD x)) cs
  | _ => False
section
variable {X : Cx} {W : WX} {K : PySem.W.Frag} {pos : Pos} {a b : Expr} {wa wb : DL.WE}
theorem isNon_ok {G : Hp} {x : V} {d : D} (r : Rep K G x d) : decide (x = .non) = isNonD d := by
  cases r <;> first | rfl | simp [isNonD]
theorem adq_isN : Adq K (fun x y H Q => y = .non ∧ Q (.bl (decide (x = .non))) H) oIsN := fun F cs H x y dx dy P Q s rx ry ho pe => by
  cases dy <;> try exact ho.elim
  cases ry
  exact ⟨rfl, by rw [isNon_ok rx]; exact pe H cs _ _ s (.bl _) ho⟩
theorem d_is (ha : DE X W a wa) (hb : DE X W b wb) : DE X W (.Compare a [.Is] [b] pos) (wOp oIsN wa wb) := d_cmp op_isN adq_isN ha hb (nomark _)
end
section
variable {cs : Cs} {P : DP} {d : D}
theorem r_isN (h : P (.bl (isNonD d)) cs) : oIsN d .non cs P := h
theorem r_notN (h : P (.bl (!isNonD d)) cs) : oNotN d .non cs P := h
theorem r_eqBs {k : Bool} (h : P (.bl true) cs) : oEq (.bl k) (.bl k) cs P := r_eqB (by rw [beq_self_eq_true]; exact h)
theorem r_neBs {k : Bool} (h : P (.bl false) cs) : oNe (.bl k) (.bl k) cs P := r_neB (by rw [beq_self_eq_true]; exact h)
end
def oIsB : DO2 := fun x y cs P => match x, y with
  | .bl a, .bl b => P (.bl (decide (a = b))) cs
  | _, _ => False
def oNotB : DO2 := fun x y cs P => match x, y with
  | .bl a, .bl b => P (.bl (!decide (a = b))) cs
  | _, _ => False
section
variable {cs : Cs} {P : DP} {k l : Bool}
theorem r_isBs (h : P (.bl true) cs) : oIsB (.bl k) (.bl k) cs P := by
  show P (.bl (decide (k = k))) cs
  rw [decide_eq_true rfl]; exact h
theorem r_notBs (h : P (.bl false) cs) : oNotB (.bl k) (.bl k) cs P := by
  show P (.bl (!decide (k = k))) cs
  rw [decide_eq_true rfl]; exact h
theorem r_isB (h : P (.bl (decide (k = l))) cs) : oIsB (.bl k) (.bl l) cs P := h
theorem r_notB (h : P (.bl (!decide (k = l))) cs) : oNotB (.bl k) (.bl l) cs P := h
end
theorem atD_mem {xs : List D} {r : Int} (h0 : 0 ≤ r) (h1 : r < xs.length) : ∃ x, x ∈ xs ∧ atD xs r = some x := by
  obtain ⟨n, rfl⟩ := Int.eq_ofNat_of_zero_le h0
  have hr : n < xs.length := by omega
  exact ⟨xs[n], List.getElem_mem _, atI_nat (List.getElem?_eq_getElem hr)⟩
mutual
theorem eqD_refl : ∀ (d : D) (n : Nat), plD n d = true → eqD d d = true
  | .non, _, _ => rfl
  | .bl b, _, _ => by simp [eqD]
  | .int i, _, _ => by simp [eqD]
  | .str x, _, _ => by simp [eqD]
  | .tup xs, 0, h => by simp [plD] at h
  | .lst xs, 0, h => by simp [plD] at h
  | .tup xs, n + 1, h => by simp only [eqD]; exact eqL_refl xs n (plD_t h)
  | .lst xs, n + 1, h => by simp only [eqD]; exact eqL_refl xs n (plD_l h)
  | .dic _, n, h => by cases n <;> simp [plD] at h
  | .dct _, n, h => by cases n <;> simp [plD] at h
  | .ins _ _, n, h => by cases n <;> simp [plD] at h
  | .xcp _ _ _ _, n, h => by cases n <;> simp [plD] at h
  | .opq _, n, h => by cases n <;> simp [plD] at h
theorem eqL_refl : ∀ (d : List D) (n : Nat), plL n d = true → eqL d d = true
  | [], _, _ => rfl
  | d :: ds, n, h => by
    simp only [plL, Bool.and_eq_true] at h
    simp only [eqL, Bool.and_eq_true]
    exact ⟨eqD_refl d n h.1, eqL_refl ds n h.2⟩
end
mutual
theorem plD_mono : ∀ (d : D) {n m : Nat}, plD n d = true → n ≤ m → plD m d = true
  | .non, n, m, _, _ => by cases m <;> rfl
  | .bl b, n, m, _, _ => by cases m <;> rfl
  | .int i, n, m, _, _ => by cases m <;> rfl
  | .str x, n, m, _, _ => by cases m <;> rfl
  | .tup xs, 0, m, h, _ => by simp [plD] at h
  | .lst xs, 0, m, h, _ => by simp [plD] at h
  | .tup xs, n + 1, 0, h, l => by omega
  | .lst xs, n + 1, 0, h, l => by omega
  | .tup xs, n + 1, m + 1, h, l => plD_tI (plL_mono xs (plD_t h) (by omega)) (plD_tn h)
  | .lst xs, n + 1, m + 1, h, l => plD_lI (plL_mono xs (plD_l h) (by omega)) (plD_ln h)
  | .dic _, n, m, h, _ => by cases n <;> simp [plD] at h
  | .dct _, n, m, h, _ => by cases n <;> simp [plD] at h
  | .ins _ _, n, m, h, _ => by cases n <;> simp [plD] at h
  | .xcp _ _ _ _, n, m, h, _ => by cases n <;> simp [plD] at h
  | .opq _, n, m, h, _ => by cases n <;> simp [plD] at h
theorem plL_mono : ∀ (d : List D) {n m : Nat}, plL n d = true → n ≤ m → plL m d = true
  | [], _, _, _, _ => rfl
  | d :: ds, n, m, h, l => by
    simp only [plL, Bool.and_eq_true] at h ⊢
    exact ⟨plD_mono d h.1 l, plL_mono ds h.2 l⟩
end
theorem plL_mem : ∀ {ds : List D} {d : D} {n : Nat}, plL n ds = true → d ∈ ds → plD n d = true
  | [], d, _, _, h => by cases h
  | e :: ds, d, n, hk, h => by
    simp only [plL, Bool.and_eq_true] at hk
    rcases List.mem_cons.mp h with z | z
    · rw [z]; exact hk.1
    · exact plL_mem hk.2 z
theorem plL_of : ∀ {ds : List D} {n : Nat}, (∀ d ∈ ds, plD n d = true) → plL n ds = true
  | [], _, _ => rfl
  | d :: ds, n, h => by
    simp only [plL, Bool.and_eq_true]
    exact ⟨h d (List.mem_cons_self ..), plL_of fun e he => h e (List.mem_cons_of_mem _ he)⟩
theorem r_eqSelf {cs : Cs} {P : DP} {d : D} (hd : plD 20 d = true) (h : P (.bl true) cs) : oEq d d cs P := ⟨hd, hd, by rw [eqD_refl d 20 hd]; exact h⟩
theorem vacF {P : Program} {w : World} {K : PySem.W.Frag} {mg : Str → Option Value} {base : Heap} {CX : CXT} {k : Nat} {f : Addr} {fd : FuncData} {ps : List Str} {n : Nat} : FnOk P w K mg base CX k f fd ps (spL K n fun _ _ _ _ => False) :=
  ⟨fun _ _ _ _ h => by obtain ⟨_, _, _, _, _, _, _, _, z, _⟩ := h; exact z.elim, fun _ _ _ _ _ _ _ _ _ _ _ _ _ h => by obtain ⟨_, _, _, _, _, _, _, _, z, _⟩ := h; exact z.elim⟩
end DL
namespace DL
open PySem PySem.Spec PyProof.Rows L2
def del (p : Addr) : Cs → Cs
  | [] => []
  | (a, x) :: r => if a = p then r else (a, x) :: del p r
theorem mem_del {p a : Addr} {x : MO} : ∀ {cs : Cs}, (a, x) ∈ del p cs → (a, x) ∈ cs
  | [], h => h
  | (b, y) :: r, h => by
    unfold del at h
    split at h
    · exact List.mem_cons_of_mem _ h
    · rcases List.mem_cons.mp h with e | e
      · rw [e]; exact List.mem_cons_self ..
      · exact List.mem_cons_of_mem _ (mem_del e)
theorem adr_del {p a : Addr} {cs : Cs} (h : a ∈ adr (del p cs)) : a ∈ adr cs := by
  obtain ⟨⟨b, x⟩, hm, e⟩ := List.mem_map.mp h
  exact List.mem_map.mpr ⟨(b, x), mem_del hm, e⟩
theorem nd_del {p : Addr} : ∀ {cs : Cs}, (adr cs).Nodup → (adr (del p cs)).Nodup ∧ p ∉ adr (del p cs)
  | [], h => ⟨h, fun z => by cases z⟩
  | (a, x) :: r, h => by
    obtain ⟨n1, n2⟩ := List.nodup_cons.mp (show (a :: adr r).Nodup from h)
    obtain ⟨i1, i2⟩ := nd_del (p := p) n2
    unfold del
    split
    · rename_i e
      rw [← e]
      exact ⟨n2, n1⟩
    · rename_i e
      refine ⟨List.nodup_cons.mpr ⟨fun z => n1 (adr_del z), i1⟩, fun z => ?_⟩
      rcases List.mem_cons.mp (show p ∈ a :: adr (del p r) from z) with z | z
      · exact e z.symm
      · exact i2 z
theorem Sta.frz {K : PySem.W.Frag} {F G0 H : Hp} {cs : Cs} {p : Addr} {m : MO} (s : Sta K F G0 cs H) (hl : DL.look p cs = some m) : Sta K F G0 (del p cs) H ∧ Ex (pur F cs H) (pur F (del p cs) H) ∧ ∃ o, pur F (del p cs) H p = some o ∧ MoOk K (pur F (del p cs) H) m o := by
  have g : Ex (pur F cs H) (pur F (del p cs) H) := fun b u e => by
    obtain ⟨e1, e2, e3⟩ := pur_of e
    rw [pur_at e2 fun z => e3 (adr_del z)]; exact e1
  obtain ⟨n1, n2⟩ := nd_del (p := p) s.nd
  have hp : p ∈ adr cs := List.mem_map.mpr ⟨(p, m), look_mem hl, rfl⟩
  refine ⟨⟨s.fr, s.gr.trans g, n1, fun a h => s.ap a (adr_del h), fun a m' h => ?_, s.ft⟩, g, ?_⟩
  · obtain ⟨u, hu, r⟩ := s.ow a m' (mem_del h)
    exact ⟨u, hu, r.mono g⟩
  · obtain ⟨u, hu, r⟩ := s.ow p m (look_mem hl)
    exact ⟨u, by rw [pur_at (s.ap p hp) n2]; exact hu, r.mono g⟩
section
variable {X : Cx} {W : WX} {K : PySem.W.Frag} {σ : L2.St} {H : Hp} {pos : Pos} {a b c e : Expr} {es : List Expr} {wa wb wc we : DL.WE} {w wk : WA}
def wFrz (we : DL.WE) : DL.WE := fun ρ cs P Z => we ρ cs (fun d cs1 => ∃ p xs, d = .opq (.ref p) ∧ look p cs1 = some (.lst xs) ∧ P (.lst xs) (del p cs1)) Z
theorem d_frz (h : DE X W e we) : DE X W e (wFrz we) := PE.imp h fun σ H Q h => by
  obtain ⟨F, cs, ρ, P, Z, s, re, hw, pe, px⟩ := h
  refine ⟨F, cs, ρ, _, Z, s, re, hw, fun H1 cs1 v d s1 r1 h1 => ?_, px⟩
  obtain ⟨p, xs, rfl, hl, h1⟩ := h1
  cases r1
  obtain ⟨s2, g2, o, ho, m⟩ := s1.frz hl
  cases o <;> try exact m.elim
  exact pe H1 _ _ _ s2 (.lst (SqL.of ho) m) h1
mutual
inductive Lend (cs : Cs) : D → D → Prop
  | same (d : D) : Lend cs d d
  | at_ {p : Addr} {xs ys : List D} : look p cs = some (.lst xs) → LendL cs xs ys → Lend cs (.opq (.ref p)) (.lst ys)
  | tup {xs ys : List D} : LendL cs xs ys → Lend cs (.tup xs) (.tup ys)
  | lst {xs ys : List D} : LendL cs xs ys → Lend cs (.lst xs) (.lst ys)
inductive LendL (cs : Cs) : List D → List D → Prop
  | nil : LendL cs [] []
  | cons {x y : D} {xs ys : List D} : Lend cs x y → LendL cs xs ys → LendL cs (x :: xs) (y :: ys)
end
theorem LendL.self (cs : Cs) : ∀ xs, LendL cs xs xs
  | [] => .nil
  | x :: xs => .cons (.same x) (LendL.self cs xs)
def flatD : D → Bool
  | .non => true
  | .bl _ => true
  | .int _ => true
  | .str _ => true
  | _ => false
variable {x : Str} {p : Pos}
def wChain (o o' : DO2) (wa wb wc : DL.WE) : DL.WE := fun ρ cs P Z => wa ρ cs (fun x cs1 => wb ρ cs1 (fun y cs2 => o x y cs2 fun z cs3 => match z with
  | .bl k => (k = true → wc ρ cs3 (fun u cs4 => o' y u cs4 P) Z) ∧ (k = false → P (.bl false) cs3)
  | _ => False) Z) Z
theorem RepL.strs {G : Hp} : ∀ {vs : List V} (ns : List Str), RepL K G vs (ns.map D.str) → vs = ns.map V.str
  | _, [], .nil => rfl
  | _, n :: ns, .cons h r => by
    cases h
    rw [List.map_cons, RepL.strs ns r]
def oIn : DO2 := fun x y cs P => (∃ (s : Str) (ss : List Str), x = .str s ∧ (y = .tup (ss.map D.str) ∨ y = .lst (ss.map D.str)) ∧ P (.bl (decide (s ∈ ss))) cs) ∨ (∃ (s : Int) (ss : List Int), x = .int s ∧ (y = .tup (ss.map D.int) ∨ y = .lst (ss.map D.int)) ∧ P (.bl (decide (s ∈ ss))) cs)
def oNotIn : DO2 := fun x y cs P => (∃ (s : Str) (ss : List Str), x = .str s ∧ (y = .tup (ss.map D.str) ∨ y = .lst (ss.map D.str)) ∧ P (.bl (!decide (s ∈ ss))) cs) ∨ (∃ (s : Int) (ss : List Int), x = .int s ∧ (y = .tup (ss.map D.int) ∨ y = .lst (ss.map D.int)) ∧ P (.bl (!decide (s ∈ ss))) cs)
theorem inV_str (s : Str) : ∀ ss : List Str, inV (.str s) (ss.map V.str) = decide (s ∈ ss)
  | [] => by simp [inV]
  | t :: ss => by
    have ih := inV_str s ss
    unfold inV at ih ⊢
    rw [List.map_cons, List.any_cons, ih]
    have e : eqV (.str t) (.str s) = decide (t = s) := by show (t == s) = _; rw [Bool.beq_eq_decide_eq]
    rw [e, ← Bool.decide_or]
    exact decide_eq_decide.mpr ⟨fun h => by rcases h with h | h <;> simp [h], fun h => by rcases List.mem_cons.mp h with h | h <;> simp [h]⟩
theorem inV_int (s : Int) : ∀ ss : List Int, inV (.int s) (ss.map V.int) = decide (s ∈ ss)
  | [] => by simp [inV]
  | t :: ss => by
    have ih := inV_int s ss
    unfold inV at ih ⊢
    rw [List.map_cons, List.any_cons, ih]
    have e : eqV (.int t) (.int s) = decide (t = s) := by show (t == s) = _; rw [Bool.beq_eq_decide_eq]
    rw [e, ← Bool.decide_or]
    exact decide_eq_decide.mpr ⟨fun h => by rcases h with h | h <;> simp [h], fun h => by rcases List.mem_cons.mp h with h | h <;> simp [h]⟩
theorem flat_strs : ∀ ss : List Str, (ss.map V.str).all flatV = true
  | [] => rfl
  | t :: ss => by rw [List.map_cons, List.all_cons, flat_strs ss]; rfl
theorem flat_ints : ∀ ss : List Int, (ss.map V.int).all flatV = true
  | [] => rfl
  | t :: ss => by rw [List.map_cons, List.all_cons, flat_ints ss]; rfl
theorem adq_notIn : Adq K (rIn K true) oNotIn := fun F cs H x y dx dy P Q s rx ry ho pe => by
  rcases ho with ⟨t, ss, rfl, h, q⟩ | ⟨t, ss, rfl, h, q⟩
  · cases rx
    rcases h with rfl | rfl
    · cases ry with
      | tup h r =>
        have e := r.strs ss
        subst e
        exact ⟨_, _, rfl, .inr (ex_t pur_le h), rfl, flat_strs ss, by rw [if_pos rfl, inV_str]; exact pe H cs _ _ s (.bl _) q⟩
    · cases ry with
      | lst h r =>
        have e := r.strs ss
        subst e
        exact ⟨_, _, rfl, .inl (ex_l pur_le h), rfl, flat_strs ss, by rw [if_pos rfl, inV_str]; exact pe H cs _ _ s (.bl _) q⟩
  · cases rx
    rcases h with rfl | rfl
    · cases ry with
      | tup h r =>
        have e := r.intsL ss
        subst e
        exact ⟨_, _, rfl, .inr (ex_t pur_le h), rfl, flat_ints ss, by rw [if_pos rfl, inV_int]; exact pe H cs _ _ s (.bl _) q⟩
    · cases ry with
      | lst h r =>
        have e := r.intsL ss
        subst e
        exact ⟨_, _, rfl, .inl (ex_l pur_le h), rfl, flat_ints ss, by rw [if_pos rfl, inV_int]; exact pe H cs _ _ s (.bl _) q⟩
theorem dt_notin (ha : DE X W a wa) (hb : DE X W b wb) (hm : behindInMarks .NotIn b = false := by rfl) : DT X W (.Compare a [.NotIn] [b] pos) (wTest (wOp oNotIn wa wb)) := dt_cmp op_notIn_seq adq_notIn ha hb hm
def sPar3 (i j l : Nat) (w : WA) : WS := fun f ρ cs => w ρ cs (fun ds cs1 => match ds with
  | [x, y, z] => f.nx (((ρ.set i (some x)).set j (some y)).set l (some z)) cs1
  | _ => False) (fun x cs1 => f.ex x ρ cs1)
theorem par3_inv {ds : List D} {g : D → D → D → Prop} (h : (match ds with | [x, y, z] => g x y z | _ => False)) : ∃ x y z, ds = [x, y, z] ∧ g x y z := by
  match ds, h with
  | [x, y, z], h => exact ⟨x, y, z, rfl, h⟩
theorem ds_par3 {i j l : Nat} {x y z : Str} {a b c : Expr} {w : WA} {px py pz pt : Pos} {kt k2 pt2} (hc : X.calm = true) (hN : X.N.Nodup) (hi : X.N[i]? = some x) (hj : X.N[j]? = some y) (hl : X.N[l]? = some z) (hij : i ≠ j) (hil : i ≠ l) (hjl : j ≠ l)
    (hx : X.env.scope.names.lookup x = some .local) (hy : X.env.scope.names.lookup y = some .local) (hz : X.env.scope.names.lookup z = some .local) (ha : DA X W [a, b, c] w)
    (hw : swappedStores [.Tuple [.Name x px, .Name y py, .Name z pz] kt pt] (.Tuple [a, b, c] k2 pt2) X.env = pure (some [x, y, z]) := by rfl)
    (hs : swapsWithSole [.Tuple [.Name x px, .Name y py, .Name z pz] kt pt] (.Tuple [a, b, c] k2 pt2) pos.line X.env = pure false := by rfl) :
    DS X W (.Assign [.Tuple [.Name x px, .Name y py, .Name z pz] kt pt] (.Tuple [a, b, c] k2 pt2) pos) (sPar3 i j l w) := PS.imp (ps_par3 hc hN hi hj hl hij hil hjl hx hy hz ha hw hs) fun E σ H h => by
  obtain ⟨F, cs, ρ, f, s, re, hw, pe⟩ := h
  refine ⟨F, cs, ρ, _, _, s, re, hw, fun H1 cs1 vs ds s1 r1 l1 h1 => ?_, pe.px re⟩
  obtain ⟨dx, dy, dz, rfl, h⟩ := par3_inv h1
  cases r1 with
  | cons r1 r2 =>
    cases r2 with
    | cons r2 r3 =>
      cases r3 with
      | cons r3 r4 =>
        cases r4
        exact ⟨_, _, _, rfl, pe.nx H1 cs1 _ _ s1 ((((re.mono s1.gr).set r1 i).set r2 j).set r3 l) h⟩
theorem PK.imp {X : Cx} {e : List Keyword} {t t' : TA} (h : PK X e t) (i : ∀ σ H Q, t' σ H Q → t σ H Q) : PK X e t' := ⟨fun pos pins s σ H Q I q => h.run pos pins s σ H Q I (i σ H Q q)⟩
def wCallK (sp : DSp) (w wk : WA) : DL.WE := fun ρ cs P Z => w ρ cs (fun ds cs1 => wk ρ cs1 (fun zs cs2 => sp (ds ++ zs) cs2 P Z) Z) Z
end
section
variable {X : Cx} {W : WX} {K : PySem.W.Frag} {e tg : Expr} {we : DL.WE}
def iAnyV (K : PySem.W.Frag) (tl : TE) : TI := fun σ H R => tl σ H fun x H1 => ∃ a, x = .ref a ∧ ((∃ xs, SqL K H1 a xs) ∧ R (Itl K a) H1 ∨ (∃ xs, SqT K H1 a xs) ∧ R (Itt K a) H1)
theorem pi_any {l : Expr} {tl : TE} (hl : PE X l tl) : PI X tg l (iAnyV X.K tl) := by
  refine ⟨fun pins s σ H R I h => ?_⟩
  refine thn (hl.run pins s σ H _ I h) fun v s1 ⟨x, H1, I1, r1, q1⟩ => ?_
  obtain ⟨a, e, q⟩ := q1
  subst e
  cases r1
  rcases q with ⟨⟨xs, hq⟩, q⟩ | ⟨⟨xs, hq⟩, q⟩
  · obtain ⟨its, rv, p, hz⟩ := I1.list hq
    refine wpAny_pyIter_list p.isList ?_
    refine ⟨s1.heap.objs.size, [s1.heap.objs.size], _, _, H1, rfl, I1.kept (t' := s1.toks) fun b o e => Heap.get?_push_of_some _ e, turn_list a _, ⟨_, Heap.get?_push_size _ rfl, rfl, rfl⟩, fun b hb => ?_, q⟩
    have e : b = s1.heap.objs.size := by simpa using hb
    subst e
    exact I1.fpOk (Nat.le_refl _) (I1.hok.fresh (Nat.le_refl _))
  · obtain ⟨its, rv, p, hz⟩ := I1.tuple hq
    refine wpAny_pyIter_tuple (show s1.heap.IsTuple a its.toArray from p) ?_
    refine ⟨s1.heap.objs.size, [s1.heap.objs.size], _, _, H1, rfl, I1.kept (t' := s1.toks) fun b o e => Heap.get?_push_of_some _ e, turn_tuple a _, ⟨_, Heap.get?_push_size _ rfl, rfl, rfl⟩, fun b hb => ?_, q⟩
    have e : b = s1.heap.objs.size := by simpa using hb
    subst e
    exact I1.fpOk (Nat.le_refl _) (I1.hok.fresh (Nat.le_refl _))
def iAnyD (we : DL.WE) : WI := fun ρ cs P Z => we ρ cs (fun d cs1 => match d with
  | .lst xs => P xs cs1
  | .tup xs => P xs cs1
  | _ => False) Z
theorem di_any (h : DE X W e we) : DI X W tg e (iAnyD we) := PI.imp (pi_any h) fun σ H R hq => by
  obtain ⟨F, cs, ρ, P, Z, s, re, hw, pe, px⟩ := hq
  refine ⟨F, cs, ρ, _, Z, s, re, hw, fun H1 cs1 v d s1 r1 h1 => ?_, px⟩
  cases d <;> try exact h1.elim
  · cases r1 with
    | tup h r => exact ⟨_, rfl, .inr ⟨⟨_, ex_t pur_le h⟩, pe H1 cs1 _ _ s1 (yi_tup h r) h1⟩⟩
  · cases r1 with
    | lst h r => exact ⟨_, rfl, .inl ⟨⟨_, ex_l pur_le h⟩, pe H1 cs1 _ _ s1 (yi_list h r) h1⟩⟩
theorem sum_tupG {prog : Program} {w : World} {A : Around} {E : Value → Shared → Prop} {s : Shared} {l : Addr} {xs : Array (Int × Tok)} {Q : Value → Shared → Prop} (hh : A.handled = none) (hT : s.heap.IsTuple l (intItems xs))
    (h : ∀ h' tk t', (∀ b o, s.heap.get? b = some o → h'.get? b = some o) → Q (.int (preSum (numAt xs) xs.size) t') { s with heap := h', toks := tk }) :
    wpAny (model prog w) A (call (.builtin "sum") [.ref l]) Q E s := by
  have hlt : l < s.heap.objs.size := by obtain ⟨_, e, _⟩ := hT; exact Heap.lt_size e
  refine call_sum_walkG (wpAny_pyIter_tuple hT ?_)
  refine ⟨_, [_, l], [_], _, _, _, numAt xs, rfl, Walks.tuple (A := A.in1) hh _ l (Nat.ne_of_lt hlt) (intItems xs), ⟨⟨_, Heap.get?_push_size _ rfl, rfl, rfl⟩, hT.push _⟩, fun c hc => ?_, (fun _ _ => intItems_at), fun h' tk t' hk => ?_⟩
  · show c < (s.heap.push _).objs.size
    rw [Heap.size_push]
    rcases List.mem_cons.mp hc with rfl | hc
    · exact Nat.lt_succ_self _
    · rw [List.mem_singleton.mp hc]; exact Nat.lt_succ_of_lt hlt
  · have := h h' tk t' (fun b o e => by
      refine hk b o (fun hm => ?_) (Heap.get?_push_of_some _ e)
      exact absurd ((List.mem_singleton.mp hm) ▸ Heap.lt_size e) (Nat.lt_irrefl _))
    simpa [intItems] using this
def rSumA (K : PySem.W.Frag) : List V → Hp → VK → Prop := fun vs H Q => ∃ (a : Addr) (ns : List Int), vs = [V.ref a] ∧ (SqL K H a (ns.map V.int) ∨ SqT K H a (ns.map V.int)) ∧ Q (.int ns.sum) H
theorem cr_sumA (hc : X.calm = true) : CallR X (.builtin "sum") (rSumA X.K) := by
  intro pins s σ H vs us Q I r h
  obtain ⟨a, ns, rfl, hs, q⟩ := h
  rw [Vals.ref1 r]
  rcases hs with hs | hs
  · obtain ⟨its, rv, hl, _⟩ := I.list hs
    exact sum_raw (I.ok.hd hc) hl.isList rv.ints fun h' tk t' hk => ⟨.int _, H, I.kept hk, ⟨_, rfl⟩, q⟩
  · obtain ⟨its, rv, hl, _⟩ := I.tuple hs
    have hi := rv.ints
    obtain ⟨xs, e⟩ := hi.allInts.items
    have hn : numsOf (intItems xs).toList = ns := by rw [← e]; exact hi.numsOf
    rw [nums_intItems] at hn
    have hl' : s.heap.IsTuple a its.toArray := hl
    rw [e] at hl'
    refine sum_tupG (I.ok.hd hc) hl' fun h' tk t' hk => ?_
    rw [preSum_eq, List.take_of_length_le (by simp), hn]
    exact ⟨.int _, H, I.kept hk, ⟨_, rfl⟩, q⟩
def oSumA : DOn := fun ds cs P => ∃ ns : List Int, (ds = [.lst (ns.map D.int)] ∨ ds = [.tup (ns.map D.int)]) ∧ P (.int ns.sum) cs
theorem adq_sumA : AdqN K (rSumA K) oSumA := fun F cs H xs ds P Q s r ho pe => by
  obtain ⟨ns, h, q⟩ := ho
  rcases h with rfl | rfl
  · cases r with
    | cons r1 r2 =>
      cases r2
      cases r1 with
      | lst h r =>
        have e2 := RepL.intsL ns r
        subst e2
        exact ⟨_, ns, rfl, .inl (ex_l pur_le h), pe H cs _ _ s (.int _) q⟩
  · cases r with
    | cons r1 r2 =>
      cases r2
      cases r1 with
      | tup h r =>
        have e2 := RepL.intsL ns r
        subst e2
        exact ⟨_, ns, rfl, .inr (ex_t pur_le h), pe H cs _ _ s (.int _) q⟩
end
section
variable {ρ : DL.Env} {cs : Cs} {P : DP} {Z : XZ} {wa wb wc we : DL.WE} {w wk : WA} {d : D} {p : Addr} {xs : List D} {f : Fin}
theorem look_hd {m : MO} : look p ((p, m) :: cs) = some m := by unfold look; rw [if_pos rfl]
theorem put_hd {m m' : MO} : put p m' ((p, m) :: cs) = (p, m') :: cs := by unfold put; rw [if_pos rfl]
theorem del_hd {m : MO} : del p ((p, m) :: cs) = cs := by unfold del; rw [if_pos rfl]
theorem r_frz (h : we ρ cs (fun d cs1 => ∃ p xs, d = .opq (.ref p) ∧ look p cs1 = some (.lst xs) ∧ P (.lst xs) (del p cs1)) Z) : wFrz we ρ cs P Z := h
theorem r_frzH (h : P (.lst xs) cs) : ∃ q ys, D.opq (.ref p) = .opq (.ref q) ∧ look q ((p, MO.lst xs) :: cs) = some (.lst ys) ∧ P (.lst ys) (del q ((p, MO.lst xs) :: cs)) := ⟨p, xs, rfl, look_hd, by rw [del_hd]; exact h⟩
theorem r_appendH (hz : xs.length < 100000) (h : P .non ((p, .lst (xs ++ [d])) :: cs)) : oAppend (.opq (.ref p)) [d] ((p, .lst xs) :: cs) P := r_append look_hd hz (by rw [put_hd]; exact h)
theorem BagIn.cons {q : Addr} {m : MO} (h : BagIn p cs) (hq : q ∉ adr cs) : BagIn p ((q, m) :: cs) := by
  obtain ⟨b, e, hb⟩ := h
  refine ⟨b, ?_, hb⟩
  unfold look
  rw [if_neg fun z => hq ?_]
  · exact e
  · rw [z]; exact List.mem_map.mpr ⟨(p, b), look_mem e, rfl⟩
theorem r_isMH {R : Prop} (h : R) : isL (.opq (.ref p)) ((p, .lst xs) :: cs) ∧ R := r_isM look_hd h
theorem r_lstM (h : w ρ cs (fun ds cs1 => ∀ p, p ∉ adr cs1 → P (.opq (.ref p)) ((p, .lst ds) :: cs1)) Z) : wLstM w ρ cs P Z := h
theorem r_chain {o o' : DO2} (h : wa ρ cs (fun x cs1 => wb ρ cs1 (fun y cs2 => o x y cs2 fun z cs3 => match z with
  | .bl k => (k = true → wc ρ cs3 (fun u cs4 => o' y u cs4 P) Z) ∧ (k = false → P (.bl false) cs3)
  | _ => False) Z) Z) : wChain o o' wa wb wc ρ cs P Z := h
theorem r_par3 {i j l : Nat} (h : w ρ cs (fun ds cs1 => match ds with
  | [x, y, z] => f.nx (((ρ.set i (some x)).set j (some y)).set l (some z)) cs1
  | _ => False) (fun x cs1 => f.ex x ρ cs1)) : sPar3 i j l w f ρ cs := h
theorem r_callK {sp : DSp} (h : w ρ cs (fun ds cs1 => wk ρ cs1 (fun zs cs2 => sp (ds ++ zs) cs2 P Z) Z) Z) : wCallK sp w wk ρ cs P Z := h
theorem r_anyI {R : List D → Cs → Prop} (h : we ρ cs (fun d cs1 => match d with | .lst xs => R xs cs1 | .tup xs => R xs cs1 | _ => False) Z) : iAnyD we ρ cs R Z := h
theorem r_callD {sp : DSp} {dds : List D} (h : w ρ cs (fun ds cs1 => sp (ds ++ dds) cs1 P Z) Z) : wCall sp dds w ρ cs P Z := h
end
end DL
namespace DL
open PySem L2
structure Bx where
  l : Rat
  t : Rat
  w : Rat
  h : Rat
def Bx.d (b : Bx) : D := dB b.l b.t b.w b.h
structure Bx.Sz (b : Bx) (n : Nat) : Prop where
  l : DL.Sz n b.l
  t : DL.Sz n b.t
  w : DL.Sz n b.w
  h : DL.Sz n b.h
structure Bx.Pos (b : Bx) : Prop where
  w : 0 < b.w
  h : 0 < b.h
/-- weights that may be shared by -/
structure WOk (ws : List Int) : Prop where
  l0 : 1 ≤ ws.length
  l1 : ws.length ≤ 12
  pos : ∀ w ∈ ws, 1 ≤ w
  sum : ws.sum < 2 ^ 23
/-- weights as the package takes them -/
structure WtOk (ws : List Int) : Prop where
  l0 : 1 ≤ ws.length
  l1 : ws.length ≤ 12
  rg : ∀ w ∈ ws, 1 ≤ w ∧ w ≤ 400000
theorem sum_le {k : Int} : ∀ {ws : List Int}, (∀ w ∈ ws, w ≤ k) → ws.sum ≤ k * ws.length
  | [], _ => by simp
  | w :: ws, h => by
    have h1 := h w (List.mem_cons_self ..)
    have h2 := sum_le fun x hx => h x (List.mem_cons_of_mem _ hx)
    rw [List.sum_cons, List.length_cons, Int.natCast_add, Int.mul_add]
    omega
theorem len_le_sum : ∀ {ws : List Int}, (∀ w ∈ ws, 1 ≤ w) → (ws.length : Int) ≤ ws.sum
  | [], _ => by simp
  | w :: ws, h => by
    have h1 := h w (List.mem_cons_self ..)
    have h2 := len_le_sum fun x hx => h x (List.mem_cons_of_mem _ hx)
    rw [List.sum_cons, List.length_cons, Int.natCast_add]
    omega
theorem WtOk.wok {ws : List Int} (h : WtOk ws) : WOk ws := by
  refine ⟨h.l0, h.l1, fun w hw => (h.rg w hw).1, ?_⟩
  have := sum_le fun w hw => (h.rg w hw).2
  have := h.l1
  omega
theorem WOk.sum_pos {ws : List Int} (h : WOk ws) : 0 < ws.sum := by
  have := len_le_sum h.pos
  have := h.l0
  omega
def preS (ws : List Int) (i : Nat) : Int := (ws.take i).sum
theorem preS_succ {ws : List Int} {i : Nat} {w : Int} (h : ws[i]? = some w) : preS ws (i + 1) = preS ws i + w := by
  unfold preS
  rw [take_more h, List.sum_append]
  simp
theorem preS_zero (ws : List Int) : preS ws 0 = 0 := by simp [preS]
theorem preS_len (ws : List Int) : preS ws ws.length = ws.sum := by simp [preS]
theorem preS_nonneg {ws : List Int} (h : ∀ w ∈ ws, 1 ≤ w) (i : Nat) : 0 ≤ preS ws i := by
  have := len_le_sum (ws := ws.take i) fun w hw => h w (List.mem_of_mem_take hw)
  unfold preS
  omega
theorem preS_le {ws : List Int} (h : ∀ w ∈ ws, 1 ≤ w) (i : Nat) : preS ws i ≤ ws.sum := by
  have h1 : (ws.take i ++ ws.drop i).sum = ws.sum := by rw [List.take_append_drop]
  have h2 := len_le_sum (ws := ws.drop i) fun w hw => h w (List.mem_of_mem_drop hw)
  rw [List.sum_append] at h1
  unfold preS
  omega
theorem mem_le_sum {ws : List Int} (h : ∀ w ∈ ws, 1 ≤ w) {i : Nat} {w : Int} (hw : ws[i]? = some w) : w ≤ ws.sum := by
  have h1 := preS_succ hw
  have h2 := preS_le h (i + 1)
  have h3 := preS_nonneg h i
  omega
theorem Sz.frac {a b : Int} (h0 : 0 ≤ a) (h1 : a < 2 ^ 23) (h2 : 0 < b) (h3 : b < 2 ^ 23) : Sz 23 (Rat.divInt a b) := Sz.divInt (n := 23) (by omega) (by omega) (by omega) (Nat.le_refl _)
theorem divInt_plus {a b c : Int} (h : c ≠ 0) : Rat.divInt (a + b) c = Rat.divInt a c + Rat.divInt b c := by
  rw [Rat.divInt_eq_div, Rat.divInt_eq_div, Rat.divInt_eq_div, Rat.intCast_add, Rat.div_def, Rat.div_def, Rat.div_def, Rat.add_mul]
/-- what stands at a share of a box, down or across -/
def cutB (b : Bx) (dn : Bool) (begin share : Rat) : Bx := if dn then ⟨b.l, b.t + b.h * begin, b.w, b.h * share⟩ else ⟨b.l + b.w * begin, b.t, b.w * share, b.h⟩
def splitAt_ (b : Bx) (ws : List Int) (dn : Bool) (i : Nat) : Bx := cutB b dn (Rat.divInt (preS ws i) ws.sum) (Rat.divInt (ws.getD i 0) ws.sum)
def splitB (b : Bx) (ws : List Int) (dn : Bool) : List Bx := (List.range ws.length).map (splitAt_ b ws dn)
def sideD (dn : Bool) : D := .str (if dn then "down" else "across")
theorem step_rat (x y : Rat) {p w c : Int} (h : c ≠ 0) : x + y * Rat.divInt p c + y * Rat.divInt w c = x + y * Rat.divInt (p + w) c := by
  rw [divInt_plus h, Rat.mul_add, Rat.add_assoc]
theorem get_map_int {ws : List Int} {i : Nat} {d : D} (h : (ws.map D.int)[i]? = some d) : ∃ w, ws[i]? = some w ∧ d = .int w := by
  rw [List.getElem?_map] at h
  cases e : ws[i]? with
  | none => rw [e] at h; cases h
  | some w => rw [e] at h; cases h; exact ⟨w, rfl, rfl⟩
theorem cutB_sz {b : Bx} {n : Nat} (hb : b.Sz n) {x y : Rat} (hx : DL.Sz 23 x) (hy : DL.Sz 23 y) (dn : Bool) : (cutB b dn x y).Sz (n + n + 24) := by
  have big : ∀ {r : Rat} {k : Nat}, DL.Sz k r → k ≤ n + n + 24 → DL.Sz (n + n + 24) r := fun h l => h.mono l
  unfold cutB
  cases dn with
  | true => exact ⟨big hb.l (by omega), big (hb.t.add (hb.h.mul hx)) (by omega), big hb.w (by omega), big (hb.h.mul hy) (by omega)⟩
  | false => exact ⟨big (hb.l.add (hb.w.mul hx)) (by omega), big hb.t (by omega), big (hb.w.mul hy) (by omega), big hb.h (by omega)⟩
theorem splitAt_sz {b : Bx} {n : Nat} (hb : b.Sz n) {ws : List Int} (hw : WOk ws) (dn : Bool) {i : Nat} (hi : i < ws.length) : (splitAt_ b ws dn i).Sz (n + n + 24) := by
  have e : ws[i]? = some (ws.getD i 0) := by rw [List.getD_eq_getElem?_getD, List.getElem?_eq_getElem hi]; rfl
  have h1 := preS_nonneg hw.pos i
  have h2 := preS_le hw.pos i
  have h3 := hw.sum
  have h4 := hw.sum_pos
  have h5 := mem_le_sum hw.pos e
  have h6 := hw.pos _ (List.mem_of_getElem? e)
  exact cutB_sz hb (Sz.frac h1 (by omega) h4 h3) (Sz.frac (by omega) (by omega) h4 h3) dn
theorem plD_Bx (b : Bx) {n : Nat} : plD (n + 2) b.d = true := by
  unfold Bx.d dB
  refine plD_tI ?_ (by show 4 ≤ 100000; decide)
  simp only [plL, plD_dR, Bool.and_self]
theorem plD_Bxs (bs : List Bx) (hl : bs.length ≤ 100000) {n : Nat} : plD (n + 3) (.lst (bs.map Bx.d)) = true := by
  refine plD_lI (plL_of fun d hd => ?_) (by rw [List.length_map]; exact hl)
  obtain ⟨b, _, rfl⟩ := List.mem_map.mp hd
  exact plD_Bx b
theorem plD_int (i : Int) {n : Nat} : plD n (.int i) = true := by cases n <;> rfl
theorem plL_ints (ws : List Int) {n : Nat} : plL n (ws.map D.int) = true := plL_of fun d hd => by
  obtain ⟨w, _, rfl⟩ := List.mem_map.mp hd
  exact plD_int w
theorem plD_ints (ws : List Int) (hl : ws.length ≤ 100000) {n : Nat} : plD (n + 1) (.lst (ws.map D.int)) = true := plD_lI (plL_ints ws) (by rw [List.length_map]; exact hl)
theorem plD_intsT (ws : List Int) (hl : ws.length ≤ 100000) {n : Nat} : plD (n + 1) (.tup (ws.map D.int)) = true := plD_tI (plL_ints ws) (by rw [List.length_map]; exact hl)
theorem szlt {a : Int} (h0 : 0 < a) (h1 : a < 2 ^ 23) : a.natAbs < 2 ^ 9000 := by
  have h : a.natAbs < 2 ^ 23 := by omega
  exact Nat.lt_of_lt_of_le h (Nat.pow_le_pow_right (by decide) (by decide))
section
variable {cs : Cs} {P : DP} {dn : Bool}
theorem r_eqDn (h : P (.bl dn) cs) : oEq (sideD dn) (.str "down") cs P := ⟨rfl, rfl, by
  cases dn
  · rw [show eqD (sideD false) (.str "down") = false by decide]; exact h
  · rw [show eqD (sideD true) (.str "down") = true by decide]; exact h⟩
theorem r_eqAc (h : P (.bl (!dn)) cs) : oEq (sideD dn) (.str "across") cs P := ⟨rfl, rfl, by
  cases dn
  · rw [show eqD (sideD false) (.str "across") = true by decide]; exact h
  · rw [show eqD (sideD true) (.str "across") = false by decide]; exact h⟩
end
theorem ltleR {a b c : Rat} (h1 : a < b) (h2 : b ≤ c) : a < c := by
  refine Rat.not_le.mp fun h3 => ?_
  exact Rat.not_le.mpr h1 (Rat.le_trans h2 h3)
def edgeAt (a b : Rat) (ws : List Int) (i : Nat) : Rat := a + b * Rat.divInt (preS ws i) ws.sum
theorem edge_zero (a b : Rat) (ws : List Int) : edgeAt a b ws 0 = a := by
  unfold edgeAt
  rw [preS_zero, show Rat.divInt 0 ws.sum = 0 from Rat.zero_divInt _, Rat.mul_zero, Rat.add_zero]
theorem divInt_self' {a : Int} (h : a ≠ 0) : Rat.divInt a a = 1 := by
  rw [Rat.divInt_eq_div]
  exact div_self' (by intro z; exact h (Rat.intCast_eq_zero_iff.mp z))
theorem edge_len (a b : Rat) {ws : List Int} (h : WOk ws) : edgeAt a b ws ws.length = a + b := by
  unfold edgeAt
  have := h.sum_pos
  rw [preS_len, divInt_self' (by omega), Rat.mul_one]
theorem edge_step (a b : Rat) {ws : List Int} (h : WOk ws) {i : Nat} {w : Int} (hw : ws[i]? = some w) : edgeAt a b ws i + b * Rat.divInt w ws.sum = edgeAt a b ws (i + 1) := by
  unfold edgeAt
  have := h.sum_pos
  rw [step_rat _ _ (by omega), preS_succ hw]
theorem divInt_pos' {a b : Int} (ha : 0 < a) (hb : 0 < b) : 0 < Rat.divInt a b := by
  rw [Rat.divInt_eq_div]
  rw [Rat.div_def]
  exact Rat.mul_pos (Rat.intCast_pos.mpr ha) (Rat.inv_pos.mpr (Rat.intCast_pos.mpr hb))
theorem le_addR {a b : Rat} (h : 0 ≤ b) : a ≤ a + b := by
  have := Rat.add_le_add_left (c := a) |>.mpr h
  rwa [Rat.add_zero] at this
theorem edge_mono {a b : Rat} (hb : 0 < b) {ws : List Int} (h : WOk ws) (i : Nat) : edgeAt a b ws i ≤ edgeAt a b ws (i + 1) := by
  cases e : ws[i]? with
  | some w =>
    rw [← edge_step a b h e]
    have h1 := h.pos w (List.mem_of_getElem? e)
    exact le_addR (Rat.le_of_lt (Rat.mul_pos hb (divInt_pos' (by omega) h.sum_pos)))
  | none =>
    have e2 : ws.length ≤ i := List.getElem?_eq_none_iff.mp e
    unfold edgeAt preS
    rw [List.take_of_length_le e2, List.take_of_length_le (by omega)]
    exact Rat.le_refl
theorem splitAt_down {b : Bx} {ws : List Int} {i : Nat} {w : Int} (hw : ws[i]? = some w) : splitAt_ b ws true i = ⟨b.l, edgeAt b.t b.h ws i, b.w, b.h * Rat.divInt w ws.sum⟩ := by
  unfold splitAt_ cutB edgeAt
  rw [List.getD_eq_getElem?_getD, hw]; rfl
theorem splitAt_across {b : Bx} {ws : List Int} {i : Nat} {w : Int} (hw : ws[i]? = some w) : splitAt_ b ws false i = ⟨edgeAt b.l b.w ws i, b.t, b.w * Rat.divInt w ws.sum, b.h⟩ := by
  unfold splitAt_ cutB edgeAt
  rw [List.getD_eq_getElem?_getD, hw]; rfl
def Bx.lies (b : Bx) (x y : Rat) : Bool := liesR b.l b.t b.w b.h x y
theorem splitAt_pos {b : Bx} {ws : List Int} (hp : b.Pos) (hw : WOk ws) (dn : Bool) {i : Nat} {w : Int} (e : ws[i]? = some w) : (splitAt_ b ws dn i).Pos := by
  have h1 := hw.pos w (List.mem_of_getElem? e)
  have h2 := divInt_pos' (a := w) (b := ws.sum) (by omega) hw.sum_pos
  cases dn with
  | true => rw [splitAt_down e]; exact ⟨hp.w, Rat.mul_pos hp.h h2⟩
  | false => rw [splitAt_across e]; exact ⟨Rat.mul_pos hp.w h2, hp.h⟩
theorem Bx.Sz.mono {b : Bx} {n m : Nat} (h : b.Sz n) (l : n ≤ m) : b.Sz m := ⟨h.l.mono l, h.t.mono l, h.w.mono l, h.h.mono l⟩
theorem split_len (b : Bx) (ws : List Int) (dn : Bool) : (splitB b ws dn).length = ws.length := by unfold splitB; rw [List.length_map, List.length_range]
section
variable {cs : Cs} {P : DP} {b : Bx}
theorem r_ixB0 (h : P (dR b.l) cs) : oIx b.d (.int 0) cs P := h
theorem r_ixB1 (h : P (dR b.t) cs) : oIx b.d (.int 1) cs P := h
theorem r_ixB2 (h : P (dR b.w) cs) : oIx b.d (.int 2) cs P := h
theorem r_ixB3 (h : P (dR b.h) cs) : oIx b.d (.int 3) cs P := h
end
end DL
namespace DL
open PySem PySem.Spec PyProof.Rows L2
section
variable {X : Cx} {W : WX} {K : PySem.W.Frag} {σ : L2.St} {H : Hp}
/-- what was put aside is a thing that may change -/
theorem Sta.backM {F G0 : Hp} {cs : Cs} {p : Addr} {m : MO} {o : HO} (s : Sta K (upd F p o) G0 cs H) (hF : F p = none) (q : MoOk K (pur (upd F p o) cs H) m o) : Sta K F G0 ((p, m) :: cs) H ∧ p ∉ adr cs := by
  have hc : p ∉ adr cs := fun z => by
    have := s.ap p z
    rw [upd_same] at this; cases this
  have e : pur F ((p, m) :: cs) H = pur (upd F p o) cs H := by
    funext b
    unfold pur
    by_cases hb : b = p
    · subst hb
      rw [if_pos (.inr (List.mem_cons_self ..)), if_pos (.inl (by rw [upd_same]; rfl))]
    · rw [upd_ne hb]
      have : (b ∈ adr ((p, m) :: cs)) ↔ (b ∈ adr cs) := by
        show b ∈ p :: adr cs ↔ _
        rw [List.mem_cons]
        exact ⟨fun h => h.resolve_left hb, .inr⟩
      by_cases h2 : (F b).isSome = true ∨ b ∈ adr cs
      · rw [if_pos h2, if_pos (h2.imp id this.mpr)]
      · rw [if_neg h2, if_neg fun z => h2 (z.imp id this.mp)]
  refine ⟨⟨fun b u h => s.fr b u (by rw [upd_ne (fun z => by rw [z, hF] at h; cases h)]; exact h), by rw [e]; exact s.gr, ?_, ?_, ?_, ft_back s.ft hF⟩, hc⟩
  · show (p :: adr cs).Nodup
    exact List.nodup_cons.mpr ⟨hc, s.nd⟩
  · intro a ha
    rcases List.mem_cons.mp (show a ∈ p :: adr cs from ha) with e | e
    · rw [e]; exact hF
    · have := s.ap a e
      rw [upd_ne (fun z => hc (by rw [← z]; exact e))] at this; exact this
  · intro a m' hm
    rw [e]
    rcases List.mem_cons.mp hm with e | e
    · cases e
      exact ⟨o, s.fr p o upd_same, q⟩
    · exact s.ow a m' e
/-- the end of a comprehension -/
abbrev CEnd (K : PySem.W.Frag) (F G : Hp) (R : List D → Cs → Prop) (Q : VK) : Prop := ∀ H2 cs2 D vacc acc, F D = none → Sta K (upd F D (.lst vacc)) G cs2 H2 → RepL K (pur (upd F D (.lst vacc)) cs2 H2) vacc acc → R acc cs2 → Q (.ref D) H2
theorem cend_mut {F G : Hp} {P : DP} {Q : VK} (pe : PostE K F G P Q) : CEnd K F G (fun ds cs2 => ∀ p, p ∉ adr cs2 → P (.opq (.ref p)) ((p, .lst ds) :: cs2)) Q := fun H2 cs2 D vacc acc hF s ra h => by
  obtain ⟨s3, hn⟩ := s.backM (m := .lst acc) hF ra
  exact pe H2 _ _ _ s3 (.opq _) (h D hn)
theorem CEnd.le {F G G' : Hp} {R : List D → Cs → Prop} {Q : VK} (h : CEnd K F G R Q) (e : Ex G G') : CEnd K F G' R Q := fun H2 cs2 D vacc acc hF s => h H2 cs2 D vacc acc hF (s.from_ e)
def wCompR (wi : WI) (g : WG) (wt : WT) (we : DL.WE) (vs : List Nat) (R : DP → List D → Cs → Prop) : DL.WE := fun ρ cs P Z => wi ρ cs (fun xs cs1 => xs.length ≤ 100000 ∧ compW g wt we xs (wipeD ρ vs) cs1 [] (R P)) Z
abbrev RM : DP → List D → Cs → Prop := fun P ds cs2 => ∀ p, p ∉ adr cs2 → P (.opq (.ref p)) ((p, .lst ds) :: cs2)
theorem lcR_ok {wi : WI} {g : TG} {gd : WG} {wt : WT} {we : DL.WE} {vs : List Nat} {R : DP → List D → Cs → Prop} (gk : GOk K g gd vs) (hR : ∀ F G P Q, PostE K F G P Q → CEnd K F G (R P) Q) {Q : VK} : lE K W (wCompR wi gd wt we vs R) σ H Q → tLc (lI K W wi) g (lT K W0 wt) (lE K W0 we) vs σ H Q := by
  rintro ⟨F, cs, ρ, P, Z, s, re, hw, pe, px⟩
  have pc := hR F _ P Q pe
  refine ⟨F, cs, ρ, _, Z, s, re, hw, fun H1 cs1 J xs s1 yi h1 => ?_, px⟩
  intro D hD
  obtain ⟨hlen, h1⟩ := h1
  have hFD : F D = none := s1.fr.back hD
  have reW : RepE K (pur F cs1 H1) (L2.wipe σ vs) (wipeD ρ vs) := (re.mono s1.gr).wipe vs
  refine ⟨fun i m H' => i ≤ xs.length ∧ m = xs.length - i ∧ ∃ cs' acc vacc, Sta K (upd F D (.lst vacc)) (pur F cs1 H1) cs' H' ∧ RepL K (pur (upd F D (.lst vacc)) cs' H') vacc acc ∧ acc.length ≤ i ∧ compW gd wt we (xs.drop i) (wipeD ρ vs) cs' acc (R P),
    ⟨xs.length, Nat.zero_le _, rfl, cs1, [], [], s1.aside hD, .nil, Nat.le_refl _, h1⟩, ?_⟩
  rintro i m H2 ⟨hi, rfl, cs2, acc, vacc, s2, ra, hla, h2⟩
  cases e : xs.drop i with
  | nil =>
    have hl : xs.length ≤ i := by
      have z := congrArg List.length e
      rw [List.length_drop] at z
      have z' : xs.length - i = 0 := z
      omega
    have hie : i = xs.length := by omega
    rw [e] at h2
    exact .inl ⟨by rw [hie]; exact yi.stop _ cs2 H2 s2, pc H2 cs2 D vacc acc hFD (s2.from_ s1.gr) ra h2⟩
  | cons d r =>
    obtain ⟨e1, e2⟩ := drop_cons e
    have hlt : i < xs.length := (List.getElem?_eq_some_iff.mp e1).1
    rw [e] at h2
    refine .inr ⟨yi.go i d e1 _ cs2 H2 s2, fun H' => ∃ cs' acc vacc, Sta K (upd F D (.lst vacc)) (pur F cs1 H1) cs' H' ∧ RepL K (pur (upd F D (.lst vacc)) cs' H') vacc acc ∧ acc.length ≤ i + 1 ∧ compW gd wt we r (wipeD ρ vs) cs' acc (R P), ?_, ?_⟩
    · rintro H' ⟨cs', acc', vacc', s', ra', hl', h'⟩
      exact ⟨xs.length - (i + 1), by omega, by omega, rfl, cs', acc', vacc', s', ra', hl', by rw [e2]; exact h'⟩
    · intro x H3 hy
      obtain ⟨s3, r3⟩ := yi.yld i d e1 _ cs2 H2 x H3 s2 hy
      refine gk _ cs2 H3 _ (wipeD ρ vs) x d _ _ s3.self (reW.mono (s2.gr.trans s3.gr)) r3 wipe_wipe h2 fun σ4 ρ4 hw4 re4 h4 => ⟨hw4.trans rfl, ?_⟩
      refine ⟨_, cs2, ρ4, _, Z0, s3.self, re4, h4, fun H5 cs5 k s5 h5 => ?_, fun _ _ _ _ _ _ z => z⟩
      cases k with
      | false => exact iteF ⟨cs5, acc, vacc, s5.from_ (s2.gr.trans s3.gr), ra.mono (s3.gr.trans s5.gr), Nat.le_succ_of_le hla, h5.2 rfl⟩
      | true =>
        refine iteT ⟨_, cs5, ρ4, _, Z0, s5.self, re4.mono s5.gr, h5.1 rfl, fun H6 cs6 y dy s6 r6 h6 => ?_, fun _ _ _ _ _ _ z => z⟩
        have s7 := (s6.from_ ((s2.gr.trans s3.gr).trans s5.gr))
        obtain ⟨s8, e8⟩ := s7.turn (o' := .lst (vacc ++ [y])) hFD
        refine ⟨vacc, s6.fr D _ upd_same, ?_, cs6, acc ++ [dy], vacc ++ [y], s8, ?_, by rw [List.length_append]; exact Nat.succ_le_succ hla, h6⟩
        · rw [ra.length]; exact Nat.lt_of_le_of_lt (Nat.le_trans hla hi) (Nat.lt_of_le_of_lt hlen (by decide))
        · rw [e8]
          exact (ra.mono (s3.gr.trans (s5.gr.trans s6.gr))).append (.cons r6 .nil)
def compW2 (g : WG) (wt : WT) (wi1 : WI) (g1 : WG) (wt1 : WT) (we : DL.WE) (vs1 : List Nat) : List D → DL.Env → Cs → List D → (List D → Cs → Prop) → Prop
  | [], _, cs, acc, P => P acc cs
  | d :: r, ρ, cs, acc, P => g d ρ fun ρ1 => wt ρ1 cs (fun k cs1 => (k = true → wi1 ρ1 cs1 (fun xs cs2 => acc.length + xs.length ≤ 100000 ∧ compW g1 wt1 we xs (wipeD ρ1 vs1) cs2 acc (fun acc' cs3 => compW2 g wt wi1 g1 wt1 we vs1 r ρ cs3 acc' P)) Z0) ∧ (k = false → compW2 g wt wi1 g1 wt1 we vs1 r ρ cs1 acc P)) Z0
def wComp2 (wi : WI) (g : WG) (wt : WT) (wi1 : WI) (g1 : WG) (wt1 : WT) (we : DL.WE) (vs vs1 : List Nat) (R : DP → List D → Cs → Prop) : DL.WE := fun ρ cs P Z => wi ρ cs (fun xs cs1 => compW2 g wt wi1 g1 wt1 we vs1 xs (wipeD ρ vs) cs1 [] (R P)) Z
variable {elt tg iter tg1 iter1 : Expr} {ifs ifs1 : List Expr} {scope : Scope} {own : List (Str × Nat)} {vs1 : List Nat} {pos : Pos} {wi wi1 : WI} {g g1 : TG} {gd gd1 : WG} {wt wt1 : WT} {we : DL.WE}
theorem d_lcM (hc : X.calm = true) (hN : X.N.Nodup) (hi : DI X W tg iter wi) (ok : BlkOk X.N X.env.scope scope own) (gk : GOk X.K g gd (own.map (·.2)))
    (hg : ∀ (s : Shared) (H : Hp) (C : Addr) (cl : List (Str × Addr)) (fp : List Addr), PG (X.blk s H scope (compEnvC scope cl C X.env) fp) tg g)
    (ht : ∀ (s : Shared) (H : Hp) (C : Addr) (cl : List (Str × Addr)) (fp : List Addr), PTs (X.blk s H scope (compEnvC scope cl C X.env) fp) ifs (lT X.K W0 wt))
    (he : ∀ (s : Shared) (H : Hp) (C : Addr) (cl : List (Str × Addr)) (fp : List Addr), DE (X.blk s H scope (compEnvC scope cl C X.env) fp) W0 elt we) (hs : ∀ x, foldedSetIterable iter X.env x = pure x := by intro _; rfl) :
    DE X W (.ListComp elt [⟨tg, iter, ifs, 0⟩] scope pos) (wCompR wi gd wt we (own.map (·.2)) RM) := PE.imp (pe_lc hc hN hi ok hg ht he hs) fun _ _ _ h => lcR_ok gk (fun _ _ _ _ pe => cend_mut pe) h
theorem ds_setLcM {i : Nat} {y : Str} {py spos : Pos} (hc : X.calm = true) (hN : X.N.Nodup) (hy : X.N[i]? = some y) (hyl : X.env.scope.names.lookup y = some .local)
    (hsw : swapsWith (.ListComp elt [⟨tg, iter, ifs, 0⟩] scope pos) (some (.Name y py)) spos.line X.env = pure true) (hi : DI X W tg iter wi) (ok : BlkOk X.N X.env.scope scope own) (gk : GOk X.K g gd (own.map (·.2)))
    (hg : ∀ (s : Shared) (H : Hp) (C : Addr) (cl : List (Str × Addr)) (fp : List Addr), PG (X.blk s H scope (compEnvC scope cl C X.env) fp) tg g)
    (ht : ∀ (s : Shared) (H : Hp) (C : Addr) (cl : List (Str × Addr)) (fp : List Addr), PTs (X.blk s H scope (compEnvC scope cl C X.env) fp) ifs (lT X.K W0 wt))
    (he : ∀ (s : Shared) (H : Hp) (C : Addr) (cl : List (Str × Addr)) (fp : List Addr), DE (X.blk s H scope (compEnvC scope cl C X.env) fp) W0 elt we) (hs : ∀ x, foldedSetIterable iter X.env x = pure x := by intro _; rfl) :
    DS X W (.Assign [.Name y py] (.ListComp elt [⟨tg, iter, ifs, 0⟩] scope pos) spos) (sAsg (wCompR wi gd wt we (own.map (·.2)) RM) (gN i)) :=
  PS.imp (ps_setLc hc hN hy hyl hsw hi ok hg ht he hs) fun E σ H h => by
    obtain ⟨F, cs, ρ, f, s, re, hw, pe⟩ := h
    have h2 : lE X.K W (wCompR wi gd wt we (own.map (·.2)) RM) σ H (fun x H1 => gName i x σ H1 E.nx) := ⟨F, cs, ρ, _, _, s, re, hw, fun H1 cs1 v d s1 r1 h1 => pe.nx H1 cs1 _ _ s1 ((re.mono s1.gr).set r1 i) h1, pe.px re⟩
    exact lcR_ok gk (fun _ _ _ _ pe => cend_mut pe) h2
end
section
variable {ρ : DL.Env} {cs : Cs} {P : DP} {Z : XZ} {we : DL.WE} {wt wt1 : WT}
theorem r_compM_ {wi : WI} {g : WG} {vs : List Nat} {R : DP → List D → Cs → Prop} (h : wi ρ cs (fun xs cs1 => xs.length ≤ 100000 ∧ compW g wt we xs (wipeD ρ vs) cs1 [] (R P)) Z) : wCompR wi g wt we vs R ρ cs P Z := h
theorem r_comp2 {wi wi1 : WI} {g g1 : WG} {vs vs1 : List Nat} {R : DP → List D → Cs → Prop} (h : wi ρ cs (fun xs cs1 => compW2 g wt wi1 g1 wt1 we vs1 xs (wipeD ρ vs) cs1 [] (R P)) Z) : wComp2 wi g wt wi1 g1 wt1 we vs vs1 R ρ cs P Z := h
end
end DL
namespace DL
open PySem PySem.Spec PyProof.Rows L2
section
variable {p : Prop} [Decidable p] {A B : Prop} {k : Bool}
theorem r_isT (hk : k = true) (h : A) : (k = true → A) ∧ (k = false → B) := ⟨fun _ => h, fun z => absurd (hk.symm.trans z) (by decide)⟩
theorem r_isF (hk : k = false) (h : B) : (k = true → A) ∧ (k = false → B) := ⟨fun z => absurd (hk.symm.trans z) (by decide), fun _ => h⟩
theorem r_pos (hp : p) (h : A) : (decide p = true → A) ∧ (decide p = false → B) := r_isT (decide_eq_true hp) h
theorem r_neg_ (hp : ¬ p) (h : B) : (decide p = true → A) ∧ (decide p = false → B) := r_isF (decide_eq_false hp) h
theorem r_npos (hp : p) (h : B) : ((!decide p) = true → A) ∧ ((!decide p) = false → B) := r_isF (by rw [decide_eq_true hp]; rfl) h
theorem r_nneg (hp : ¬ p) (h : A) : ((!decide p) = true → A) ∧ ((!decide p) = false → B) := r_isT (by rw [decide_eq_false hp]; rfl) h
end
theorem r_app11 {sp : DSp} {x0 y0 : D} {cs : Cs} {P : DP} {Z : XZ} (h : sp [x0, y0] cs P Z) : sp ([x0] ++ [y0]) cs P Z := h
theorem r_app12 {sp : DSp} {x0 y0 y1 : D} {cs : Cs} {P : DP} {Z : XZ} (h : sp [x0, y0, y1] cs P Z) : sp ([x0] ++ [y0, y1]) cs P Z := h
theorem r_app21 {sp : DSp} {x0 x1 y0 : D} {cs : Cs} {P : DP} {Z : XZ} (h : sp [x0, x1, y0] cs P Z) : sp ([x0, x1] ++ [y0]) cs P Z := h
theorem r_app22 {sp : DSp} {x0 x1 y0 y1 : D} {cs : Cs} {P : DP} {Z : XZ} (h : sp [x0, x1, y0, y1] cs P Z) : sp ([x0, x1] ++ [y0, y1]) cs P Z := h
theorem r_app31 {sp : DSp} {x0 x1 x2 y0 : D} {cs : Cs} {P : DP} {Z : XZ} (h : sp [x0, x1, x2, y0] cs P Z) : sp ([x0, x1, x2] ++ [y0]) cs P Z := h
theorem r_app32 {sp : DSp} {x0 x1 x2 y0 y1 : D} {cs : Cs} {P : DP} {Z : XZ} (h : sp [x0, x1, x2, y0, y1] cs P Z) : sp ([x0, x1, x2] ++ [y0, y1]) cs P Z := h
theorem r_app41 {sp : DSp} {x0 x1 x2 x3 y0 : D} {cs : Cs} {P : DP} {Z : XZ} (h : sp [x0, x1, x2, x3, y0] cs P Z) : sp ([x0, x1, x2, x3] ++ [y0]) cs P Z := h
theorem r_app42 {sp : DSp} {x0 x1 x2 x3 y0 y1 : D} {cs : Cs} {P : DP} {Z : XZ} (h : sp [x0, x1, x2, x3, y0, y1] cs P Z) : sp ([x0, x1, x2, x3] ++ [y0, y1]) cs P Z := h
theorem r_app51 {sp : DSp} {x0 x1 x2 x3 x4 y0 : D} {cs : Cs} {P : DP} {Z : XZ} (h : sp [x0, x1, x2, x3, x4, y0] cs P Z) : sp ([x0, x1, x2, x3, x4] ++ [y0]) cs P Z := h
theorem r_app52 {sp : DSp} {x0 x1 x2 x3 x4 y0 y1 : D} {cs : Cs} {P : DP} {Z : XZ} (h : sp [x0, x1, x2, x3, x4, y0, y1] cs P Z) : sp ([x0, x1, x2, x3, x4] ++ [y0, y1]) cs P Z := h
theorem r_dn1 {sp : DSp} {x0 : D} {cs : Cs} {P : DP} {Z : XZ} (h : sp [x0, sideD true] cs P Z) : sp [x0, .str "down"] cs P Z := h
theorem r_ac1 {sp : DSp} {x0 : D} {cs : Cs} {P : DP} {Z : XZ} (h : sp [x0, sideD false] cs P Z) : sp [x0, .str "across"] cs P Z := h
theorem r_dn2 {sp : DSp} {x0 x1 : D} {cs : Cs} {P : DP} {Z : XZ} (h : sp [x0, x1, sideD true] cs P Z) : sp [x0, x1, .str "down"] cs P Z := h
theorem r_ac2 {sp : DSp} {x0 x1 : D} {cs : Cs} {P : DP} {Z : XZ} (h : sp [x0, x1, sideD false] cs P Z) : sp [x0, x1, .str "across"] cs P Z := h
theorem r_dn3 {sp : DSp} {x0 x1 x2 : D} {cs : Cs} {P : DP} {Z : XZ} (h : sp [x0, x1, x2, sideD true] cs P Z) : sp [x0, x1, x2, .str "down"] cs P Z := h
theorem r_ac3 {sp : DSp} {x0 x1 x2 : D} {cs : Cs} {P : DP} {Z : XZ} (h : sp [x0, x1, x2, sideD false] cs P Z) : sp [x0, x1, x2, .str "across"] cs P Z := h
theorem r_dn4 {sp : DSp} {x0 x1 x2 x3 : D} {cs : Cs} {P : DP} {Z : XZ} (h : sp [x0, x1, x2, x3, sideD true] cs P Z) : sp [x0, x1, x2, x3, .str "down"] cs P Z := h
theorem r_ac4 {sp : DSp} {x0 x1 x2 x3 : D} {cs : Cs} {P : DP} {Z : XZ} (h : sp [x0, x1, x2, x3, sideD false] cs P Z) : sp [x0, x1, x2, x3, .str "across"] cs P Z := h
theorem r_dn5 {sp : DSp} {x0 x1 x2 x3 x4 : D} {cs : Cs} {P : DP} {Z : XZ} (h : sp [x0, x1, x2, x3, x4, sideD true] cs P Z) : sp [x0, x1, x2, x3, x4, .str "down"] cs P Z := h
theorem r_ac5 {sp : DSp} {x0 x1 x2 x3 x4 : D} {cs : Cs} {P : DP} {Z : XZ} (h : sp [x0, x1, x2, x3, x4, sideD false] cs P Z) : sp [x0, x1, x2, x3, x4, .str "across"] cs P Z := h
section
variable {ρ : DL.Env} {cs : Cs} {wa wb we wo wi wv : DL.WE} {w : WA} {ta : WT} {u v : WS} {i j l : Nat} {nx bk ct : DL.Env → Cs → Prop} {rt : D → Cs → Prop} {ex : Exn → DL.Env → Cs → Prop}
theorem q_sif (h : ta ρ cs (fun k cs1 => (k = true → u ⟨nx, rt, ex, bk, ct⟩ ρ cs1) ∧ (k = false → v ⟨nx, rt, ex, bk, ct⟩ ρ cs1)) (fun x cs1 => ex x ρ cs1)) : sIf ta u v ⟨nx, rt, ex, bk, ct⟩ ρ cs := h
theorem q_set (h : we ρ cs (fun d cs1 => nx (ρ.set i (some d)) cs1) (fun x cs1 => ex x ρ cs1)) : sAsg we (gN i) ⟨nx, rt, ex, bk, ct⟩ ρ cs := h
theorem q_asg {g : WG} (h : we ρ cs (fun d cs1 => g d ρ fun ρ' => nx ρ' cs1) (fun x cs1 => ex x ρ cs1)) : sAsg we g ⟨nx, rt, ex, bk, ct⟩ ρ cs := h
theorem q_ret (h : we ρ cs rt (fun x cs1 => ex x ρ cs1)) : sRet we ⟨nx, rt, ex, bk, ct⟩ ρ cs := h
theorem q_retN (h : rt .non cs) : sRetN ⟨nx, rt, ex, bk, ct⟩ ρ cs := h
theorem q_drop (h : we ρ cs (fun _ cs1 => nx ρ cs1) (fun x cs1 => ex x ρ cs1)) : sDrop we ⟨nx, rt, ex, bk, ct⟩ ρ cs := h
theorem q_next (h : nx ρ cs) : sNext ⟨nx, rt, ex, bk, ct⟩ ρ cs := h
theorem q_brk (h : bk ρ cs) : sBreak ⟨nx, rt, ex, bk, ct⟩ ρ cs := h
theorem q_ct (h : ct ρ cs) : sCont ⟨nx, rt, ex, bk, ct⟩ ρ cs := h
theorem q_par (h : wa ρ cs (fun x cs1 => wb ρ cs1 (fun y cs2 => nx ((ρ.set i (some x)).set j (some y)) cs2) (fun x cs1 => ex x ρ cs1)) (fun x cs1 => ex x ρ cs1)) : sPar i j (wCons wa (wCons wb wNil)) ⟨nx, rt, ex, bk, ct⟩ ρ cs := h
theorem q_setix (h : wv ρ cs (fun v cs1 => wo ρ cs1 (fun x cs2 => wi ρ cs2 (fun i cs3 => oSetL x i v cs3 fun cs4 => nx ρ cs4) (fun x cs1 => ex x ρ cs1)) (fun x cs1 => ex x ρ cs1)) (fun x cs1 => ex x ρ cs1)) : sSetIx wv wo wi oSetL ⟨nx, rt, ex, bk, ct⟩ ρ cs := h
theorem q_aug {o : DO2} {x : D} (hi : ρ[i]? = some (some x)) (h : we ρ cs (fun y cs1 => o x y cs1 fun z cs2 => nx (ρ.set i (some z)) cs2) (fun x cs1 => ex x ρ cs1)) : sAug i o we ⟨nx, rt, ex, bk, ct⟩ ρ cs := r_aug hi h
theorem q_for {wi : WI} {g : WG} (h : wi ρ cs (fun xs cs1 => loopW g u ⟨nx, rt, ex, bk, ct⟩ xs ρ cs1) (fun x cs1 => ex x ρ cs1)) : sFor wi g u ⟨nx, rt, ex, bk, ct⟩ ρ cs := h
theorem q_par3 (h : w ρ cs (fun ds cs1 => match ds with
  | [x, y, z] => nx (((ρ.set i (some x)).set j (some y)).set l (some z)) cs1
  | _ => False) (fun x cs1 => ex x ρ cs1)) : sPar3 i j l w ⟨nx, rt, ex, bk, ct⟩ ρ cs := h
end
section
variable {ρ : DL.Env} {cs : Cs} {P : DP} {Z : XZ} {x y z : D} {ds : List D}
theorem g_s {u : WS} {f : Fin} (h : u f ρ cs) : u f ρ cs := h
theorem g_e {u : DL.WE} (h : u ρ cs P Z) : u ρ cs P Z := h
theorem g_t {u : WT} {Q : Bool → Cs → Prop} (h : u ρ cs Q Z) : u ρ cs Q Z := h
theorem g_a {u : WA} {Q : List D → Cs → Prop} (h : u ρ cs Q Z) : u ρ cs Q Z := h
theorem g_o {u : WO} {Q : Option Int → Cs → Prop} (h : u ρ cs Q Z) : u ρ cs Q Z := h
theorem g_2 {o : DO2} (h : o x y cs P) : o x y cs P := h
theorem g_n {o : DOn} (h : o ds cs P) : o ds cs P := h
theorem g_p {o : DSp} (h : o ds cs P Z) : o ds cs P Z := h
theorem g_m {o : DMt} (h : o x ds cs P) : o x ds cs P := h
theorem g_g {g : WG} {k : DL.Env → Prop} (h : g x ρ k) : g x ρ k := h
theorem g_gs {g : WGs} {k : DL.Env → Prop} (h : g ds ρ k) : g ds ρ k := h
theorem g_w {o : DSet} {k : Cs → Prop} (h : o x y z cs k) : o x y z cs k := h
theorem g_c {A B : Prop} (h : A ∧ B) : A ∧ B := h
end
section
variable {α : Type} {ρ : DL.Env} {cs : Cs} {we : DL.WE} {wt : WT}
theorem r_loopL {nx bk ct : DL.Env → Cs → Prop} {rt : D → Cs → Prop} {ex : Exn → DL.Env → Cs → Prop} {gd : WG} {wb : WS} (I : Nat → DL.Env → Cs → Prop) {l : List α} {g : α → D} (h0 : I 0 ρ cs)
    (hs : ∀ i a ρ cs (N : DL.Env → Cs → Prop), l[i]? = some a → I i ρ cs → (∀ ρ' cs', I (i + 1) ρ' cs' → N ρ' cs') → gd (g a) ρ fun ρ1 => wb ⟨N, rt, ex, nx, N⟩ ρ1 cs)
    (hd : ∀ ρ cs, I l.length ρ cs → nx ρ cs) : loopW gd wb ⟨nx, rt, ex, bk, ct⟩ (l.map g) ρ cs := by
  refine r_loop0 I h0 (fun i d ρ cs N e hi hN => ?_) (fun ρ cs h => hd ρ cs (by rw [List.length_map] at h; exact h))
  rw [List.getElem?_map] at e
  obtain ⟨a, e1, rfl⟩ := Option.map_eq_some_iff.mp e
  exact hs i a ρ cs N e1 hi hN
theorem r_cfm {gd : WG} {R : List D → Cs → Prop} {l : List α} {g : α → D} (p : α → Bool) (f : α → D)
    (hs : ∀ a (N : DP) (N' : Cs → Prop), a ∈ l → (p a = true → N (f a) cs) → (p a = false → N' cs) → gd (g a) ρ fun ρ1 => wt ρ1 cs (fun b cs1 => (b = true → we ρ1 cs1 N Z0) ∧ (b = false → N' cs1)) Z0)
    (hd : R ((l.filter p).map f) cs) : compW gd wt we (l.map g) ρ cs [] R := by
  refine r_comp0 (fun i acc cs' => acc = ((l.take i).filter p).map f ∧ cs' = cs) ⟨rfl, rfl⟩ ?_ ?_
  · rintro i d acc cs' N e ⟨rfl, rfl⟩ hN
    rw [List.getElem?_map] at e
    obtain ⟨a, e1, rfl⟩ := Option.map_eq_some_iff.mp e
    refine hs a _ _ (List.mem_of_getElem? e1) (fun h => hN _ _ ⟨?_, rfl⟩) (fun h => hN _ _ ⟨?_, rfl⟩)
    · rw [take_more e1, List.filter_append, List.map_append, List.filter_cons_of_pos h]; rfl
    · rw [take_more e1, List.filter_append, List.filter_cons_of_neg (by rw [h]; decide), List.filter_nil, List.append_nil]
  · rintro acc cs' ⟨rfl, rfl⟩
    rw [List.length_map, List.take_length]
    exact hd
theorem r_cm {gd : WG} {R : List D → Cs → Prop} {l : List α} {g : α → D} (f : α → D)
    (hs : ∀ a (N : DP) (N' : Cs → Prop), a ∈ l → N (f a) cs → gd (g a) ρ fun ρ1 => wt ρ1 cs (fun b cs1 => (b = true → we ρ1 cs1 N Z0) ∧ (b = false → N' cs1)) Z0)
    (hd : R (l.map f) cs) : compW gd wt we (l.map g) ρ cs [] R := by
  refine r_cfm (fun _ => true) f (fun a N N' h h1 h2 => hs a N N' h (h1 rfl)) ?_
  rw [List.filter_eq_self.mpr fun _ _ => rfl]
  exact hd
theorem r_loopE {nx bk ct : DL.Env → Cs → Prop} {rt : D → Cs → Prop} {ex : Exn → DL.Env → Cs → Prop} {gd : WG} {wb : WS} {xs : List D} (I : Nat → DL.Env → Cs → Prop) {l : List α} {g : α → D} (e : xs = l.map g) (h0 : I 0 ρ cs)
    (hs : ∀ i a ρ cs (N : DL.Env → Cs → Prop), l[i]? = some a → I i ρ cs → (∀ ρ' cs', I (i + 1) ρ' cs' → N ρ' cs') → gd (g a) ρ fun ρ1 => wb ⟨N, rt, ex, nx, N⟩ ρ1 cs)
    (hd : ∀ ρ cs, I l.length ρ cs → nx ρ cs) : loopW gd wb ⟨nx, rt, ex, bk, ct⟩ xs ρ cs := by subst e; exact r_loopL I h0 hs hd
theorem r_cfmE {gd : WG} {R : List D → Cs → Prop} {xs : List D} {l : List α} {g : α → D} (e : xs = l.map g) (p : α → Bool) (f : α → D)
    (hs : ∀ a (N : DP) (N' : Cs → Prop), a ∈ l → (p a = true → N (f a) cs) → (p a = false → N' cs) → gd (g a) ρ fun ρ1 => wt ρ1 cs (fun b cs1 => (b = true → we ρ1 cs1 N Z0) ∧ (b = false → N' cs1)) Z0)
    (hd : R ((l.filter p).map f) cs) : compW gd wt we xs ρ cs [] R := by subst e; exact r_cfm p f hs hd
theorem r_cmE {gd : WG} {R : List D → Cs → Prop} {xs : List D} {l : List α} {g : α → D} (e : xs = l.map g) (f : α → D)
    (hs : ∀ a (N : DP) (N' : Cs → Prop), a ∈ l → N (f a) cs → gd (g a) ρ fun ρ1 => wt ρ1 cs (fun b cs1 => (b = true → we ρ1 cs1 N Z0) ∧ (b = false → N' cs1)) Z0)
    (hd : R (l.map f) cs) : compW gd wt we xs ρ cs [] R := by subst e; exact r_cm f hs hd
theorem r_zip {w : WA} {Z : XZ} {R : List D → Cs → Prop} (h : w ρ cs (fun ds cs1 => match ds with | [.lst xs, .lst ys] => R (List.zipWith (fun d e => D.tup [d, e]) xs ys) cs1 | [.tup xs, .tup ys] => R (List.zipWith (fun d e => D.tup [d, e]) xs ys) cs1 | _ => False) Z) : iZp w ρ cs R Z := h
theorem zip_map {β γ : Type} (f : α → β) (g : α → γ) (l : List α) {δ : Type} (h : β → γ → δ) : List.zipWith h (l.map f) (l.map g) = l.map fun a => h (f a) (g a) := by
  induction l with
  | nil => rfl
  | cons a l ih => simp [ih]
end
section
variable {p q : Addr} {m : MO} {cs cs' : Cs}
theorem BagIn.ne (h : BagIn p cs) (hq : q ∉ adr cs) : p ≠ q := fun z => by
  obtain ⟨b, e, _⟩ := h
  exact hq (z ▸ List.mem_map.mpr ⟨(p, b), look_mem e, rfl⟩)
theorem BagIn.over (hn : p ≠ q) (h : BagIn p cs) : BagIn p ((q, m) :: cs) := by
  obtain ⟨b, e, hb⟩ := h
  exact ⟨b, by unfold look; rw [if_neg (Ne.symm hn)]; exact e, hb⟩
theorem BagIn.under (hn : p ≠ q) (h : BagIn p ((q, m) :: cs)) : BagIn p cs := by
  obtain ⟨b, e, hb⟩ := h
  refine ⟨b, ?_, hb⟩
  unfold look at e
  rw [if_neg (Ne.symm hn)] at e
  exact e
theorem BagStep.under (hn : p ≠ q) (h : BagStep p ((q, m) :: cs) cs') : ∃ cs0, cs' = (q, m) :: cs0 ∧ BagStep p cs cs0 := by
  obtain ⟨b, e⟩ := h.eq
  have e2 : put p b ((q, m) :: cs) = (q, m) :: put p b cs := by
    rw [put, if_neg (Ne.symm hn)]
  rw [e2] at e
  subst e
  exact ⟨_, rfl, h.bag.under hn, b, rfl⟩
end
/-- weights: a list or a tuple -/
def WD (wd : D) (ws : List Int) : Prop := wd = .lst (ws.map D.int) ∨ wd = .tup (ws.map D.int)
theorem WD.l (ws : List Int) : WD (.lst (ws.map D.int)) ws := .inl rfl
theorem WD.t (ws : List Int) : WD (.tup (ws.map D.int)) ws := .inr rfl
theorem r_lenW {wd : D} {ws : List Int} (h : WD wd ws) {cs : Cs} {P : DP} (hq : P (.int (ws.length : Int)) cs) : oLen [wd] cs P := by
  rcases h with rfl | rfl
  · exact r_lenL (by rw [List.length_map]; exact hq)
  · exact r_lenT (by rw [List.length_map]; exact hq)
theorem r_sumW {wd : D} {ws : List Int} (h : WD wd ws) {cs : Cs} {P : DP} (hq : P (.int ws.sum) cs) : oSumA [wd] cs P := by
  rcases h with rfl | rfl
  · exact ⟨ws, .inl rfl, hq⟩
  · exact ⟨ws, .inr rfl, hq⟩
theorem sIx_int {n : Nat} {a : Int} (h0 : 0 ≤ a) (h : a ≤ n) (d : Nat) : HT.sIx n d (some a) = a.toNat := by
  obtain ⟨k, rfl⟩ : ∃ k : Nat, a = k := ⟨a.toNat, by omega⟩
  rw [HT.sIx_nat]; omega
theorem cutD_int {xs : List D} {a b : Int} (h0 : 0 ≤ a) (h1 : a ≤ b) (h2 : b ≤ xs.length) : cutD xs (some a) (some b) = (xs.drop a.toNat).take (b - a).toNat := by
  unfold cutD
  rw [sIx_int h0 (by omega), sIx_int (by omega) h2]
  congr 1
  omega
/-- the sizes of rows of n things -/
structure SzOk (zs : List Int) (n : Nat) : Prop where
  pos : ∀ z ∈ zs, 1 ≤ z
  sum : zs.sum = n
def rowAt {α : Type} (xs : List α) (zs : List Int) (i : Nat) : List α := (xs.drop (preS zs i).toNat).take (zs.getD i 0).toNat
def rowsOf {α : Type} (xs : List α) (zs : List Int) : List (List α) := (List.range zs.length).map (rowAt xs zs)
theorem getD_of {zs : List Int} {i : Nat} {z : Int} (h : zs[i]? = some z) : zs.getD i 0 = z := by
  rw [List.getD_eq_getElem?_getD, h]; rfl
theorem rowAt_map {α β : Type} (f : α → β) (xs : List α) (zs : List Int) (i : Nat) : rowAt (xs.map f) zs i = (rowAt xs zs i).map f := by
  unfold rowAt; rw [List.map_take, List.map_drop]
theorem rowsOf_map {α β : Type} (f : α → β) (xs : List α) (zs : List Int) : rowsOf (xs.map f) zs = (rowsOf xs zs).map (List.map f) := by
  unfold rowsOf
  rw [List.map_map]
  exact List.map_congr_left fun i _ => rowAt_map f xs zs i
theorem SzOk.pre_le {zs : List Int} {n : Nat} (h : SzOk zs n) (i : Nat) : preS zs i ≤ n := by rw [← h.sum]; exact preS_le h.pos i
theorem SzOk.len {zs : List Int} {n : Nat} (h : SzOk zs n) : zs.length ≤ n := by
  have := len_le_sum h.pos
  have := h.sum
  omega
theorem row_len {α : Type} {xs : List α} {zs : List Int} (h : SzOk zs xs.length) {i : Nat} {z : Int} (hz : zs[i]? = some z) : (rowAt xs zs i).length = z.toNat := by
  unfold rowAt
  have h1 := preS_nonneg h.pos i
  have h2 := h.pre_le (i + 1)
  rw [preS_succ hz] at h2
  rw [List.length_take, List.length_drop, getD_of hz]
  omega
/-- the rows make the whole -/
theorem rows_take {α : Type} {xs : List α} {zs : List Int} (hp : ∀ z ∈ zs, 1 ≤ z) : ∀ i, i ≤ zs.length → (List.range i).flatMap (rowAt xs zs) = xs.take (preS zs i).toNat
  | 0, _ => by rw [preS_zero]; rfl
  | i + 1, hi => by
    have hz : zs[i]? = some zs[i] := List.getElem?_eq_getElem (by omega)
    have h1 := preS_nonneg hp i
    have h2 := hp _ (List.mem_of_getElem? hz)
    rw [List.range_succ, List.flatMap_append, rows_take hp i (by omega), preS_succ hz]
    have e : (preS zs i + zs[i]).toNat = (preS zs i).toNat + zs[i].toNat := by omega
    rw [e, List.take_add, List.flatMap_cons, List.flatMap_nil, List.append_nil]
    unfold rowAt
    rw [getD_of hz]
theorem rows_all {α : Type} {xs : List α} {zs : List Int} (h : SzOk zs xs.length) : (List.range zs.length).flatMap (rowAt xs zs) = xs := by
  rw [rows_take h.pos _ (Nat.le_refl _), preS_len, h.sum]
  exact List.take_of_length_le (by omega)
theorem row_mem {α : Type} {xs : List α} {zs : List Int} {i : Nat} {x : α} (h : x ∈ rowAt xs zs i) : x ∈ xs := List.mem_of_mem_drop (List.mem_of_mem_take h)
/-- the weights of the rows -/
def sumsOf (ws : List Int) (zs : List Int) : List Int := (List.range zs.length).map fun i => (rowAt ws zs i).sum
theorem sums_len (ws zs : List Int) : (sumsOf ws zs).length = zs.length := by simp [sumsOf]
theorem sums_get {ws zs : List Int} {i : Nat} (h : i < zs.length) : (sumsOf ws zs)[i]? = some (rowAt ws zs i).sum := by
  unfold sumsOf
  rw [List.getElem?_map, List.getElem?_range h]; rfl
theorem sum_flatMap {α : Type} (f : α → List Int) : ∀ l : List α, (l.flatMap f).sum = (l.map fun i => (f i).sum).sum
  | [] => rfl
  | a :: l => by rw [List.flatMap_cons, List.sum_append, sum_flatMap f l]; rfl
theorem sums_sum {ws zs : List Int} (h : SzOk zs ws.length) : (sumsOf ws zs).sum = ws.sum := by
  unfold sumsOf
  rw [← sum_flatMap, rows_all h]
theorem row_wok {ws zs : List Int} (hw : WOk ws) (h : SzOk zs ws.length) {i : Nat} (hi : i < zs.length) : WOk (rowAt ws zs i) := by
  have hz : zs[i]? = some zs[i] := List.getElem?_eq_getElem hi
  have hl := row_len h hz
  have hp := h.pos _ (List.mem_of_getElem? hz)
  have pos : ∀ w ∈ rowAt ws zs i, 1 ≤ w := fun w hw' => hw.pos w (row_mem hw')
  have h1 := mem_le_sum (ws := sumsOf ws zs) (i := i) (w := (rowAt ws zs i).sum) (fun w hm => by
    obtain ⟨j, hj, rfl⟩ := List.mem_map.mp hm
    have hj' := List.mem_range.mp hj
    have hzj : zs[j]? = some zs[j] := List.getElem?_eq_getElem hj'
    have := len_le_sum (ws := rowAt ws zs j) fun w hw' => hw.pos w (row_mem hw')
    have := row_len h hzj
    have := h.pos _ (List.mem_of_getElem? hzj)
    omega) (sums_get hi)
  rw [sums_sum h] at h1
  refine ⟨by omega, ?_, pos, by have := hw.sum; omega⟩
  have := h.pre_le (i + 1)
  have := preS_nonneg h.pos i
  rw [preS_succ hz] at *
  have := hw.l1
  omega
theorem sums_wok {ws zs : List Int} (hw : WOk ws) (h : SzOk zs ws.length) : WOk (sumsOf ws zs) := by
  have h0 : 0 < zs.length := by
    cases zs with
    | nil => have := h.sum; have := hw.l0; simp at *; omega
    | cons _ _ => simp
  refine ⟨by rw [sums_len]; exact h0, by rw [sums_len]; have := h.len; have := hw.l1; omega, ?_, by rw [sums_sum h]; exact hw.sum⟩
  intro w hm
  obtain ⟨j, hj, rfl⟩ := List.mem_map.mp hm
  have hj' := List.mem_range.mp hj
  have := (row_wok hw h hj').sum_pos
  omega
theorem r_flatB {k : Bool} {A : Prop} (h : A) : flatD (.bl k) = true ∧ A := ⟨rfl, h⟩
/-- the boxes of rows -/
def laidAt (b : Bx) (ws zs : List Int) (dn : Bool) (i : Nat) : List Bx := splitB (splitAt_ b (sumsOf ws zs) dn i) (rowAt ws zs i) (!dn)
theorem laidAt_len (b : Bx) (ws zs : List Int) (dn : Bool) (i : Nat) : (laidAt b ws zs dn i).length = (rowAt ws zs i).length := split_len _ _ _
def laidB (b : Bx) (ws zs : List Int) (dn : Bool) : List Bx := (List.range zs.length).flatMap (laidAt b ws zs dn)
theorem laid_pre (b : Bx) {ws zs : List Int} (dn : Bool) (h : SzOk zs ws.length) {i : Nat} (hi : i ≤ zs.length) : ((List.range i).flatMap (laidAt b ws zs dn)).length = (ws.take (preS zs i).toNat).length := by
  have e : ∀ l : List Nat, (l.flatMap (laidAt b ws zs dn)).length = (l.flatMap (rowAt ws zs)).length := by
    intro l
    induction l with
    | nil => rfl
    | cons a l ih => rw [List.flatMap_cons, List.flatMap_cons, List.length_append, List.length_append, ih, laidAt_len]
  rw [e, rows_take h.pos i hi]
theorem laid_len (b : Bx) {ws zs : List Int} (dn : Bool) (h : SzOk zs ws.length) : (laidB b ws zs dn).length = ws.length := by
  unfold laidB
  rw [laid_pre b dn h (Nat.le_refl _), preS_len, h.sum]
  simp
theorem flat_more {α β : Type} (f : Nat → List α) (g : α → β) (i : Nat) : ((List.range i).flatMap f).map g ++ (f i).map g = ((List.range (i + 1)).flatMap f).map g := by
  rw [List.range_succ, List.flatMap_append, List.map_append]
  simp
theorem range_get {n i j : Nat} (h : (List.range n)[i]? = some j) : i < n ∧ i = j := by
  obtain ⟨h1, h2⟩ := List.getElem?_eq_some_iff.mp h
  rw [List.length_range] at h1
  exact ⟨h1, by simpa using h2⟩
end DL
namespace DL
open PySem PySem.Spec PyProof.Rows L2
/-- what stands in a list, data or changing -/
def lstOf (cs : Cs) : D → Option (List D)
  | .lst xs => some xs
  | .opq (.ref p) => (match look p cs with
    | some (.lst xs) => some xs
    | _ => none)
  | _ => none
theorem lstOf_m {cs : Cs} {p : Addr} {xs : List D} (h : look p cs = some (.lst xs)) : lstOf cs (.opq (.ref p)) = some xs := by
  unfold lstOf
  simp only [h]
theorem lstOf_h {cs : Cs} {p : Addr} {xs : List D} : lstOf ((p, .lst xs) :: cs) (.opq (.ref p)) = some xs := lstOf_m look_hd
section
variable {X : Cx} {W : WX} {K : PySem.W.Frag} {σ : L2.St} {H : Hp} {a b : Expr} {wa wb : DL.WE} {pos : Pos}
theorem lstOf_sq {F G0 : Hp} {cs : Cs} {x : V} {d : D} {xs : List D} (s : Sta K F G0 cs H) (r : Rep K (pur F cs H) x d) (h : lstOf cs d = some xs) : ∃ p vs, x = .ref p ∧ SqL K H p vs ∧ RepL K (pur F cs H) vs xs := by
  cases d <;> try (cases h)
  · cases r with
    | lst h r => exact ⟨_, _, rfl, ex_l pur_le h, r⟩
  · rename_i v
    cases v <;> try (cases h)
    rename_i p
    cases r
    have h' : (match look p cs with
      | some (.lst xs) => some xs
      | _ => none) = some xs := h
    split at h'
    · rename_i ys e
      cases h'
      obtain ⟨vs, e1, e2⟩ := lst_at s e
      exact ⟨p, vs, rfl, SqL.of e1, e2⟩
    · cases h'
def rCatQ (K : PySem.W.Frag) : R2 := fun x y H Q => ∃ a b xs ys, x = .ref a ∧ y = .ref b ∧ SqL K H a xs ∧ SqL K H b ys ∧ xs.length + ys.length ≤ sizeLine ∧ ∀ p, H p = none → Q (.ref p) (upd H p (.lst (xs ++ ys)))
theorem op_catQ : OpR X (binaryOp .Add) (rCatQ X.K) := by
  intro pins s σ H x y v u Q I rx ry h
  obtain ⟨l, b, xs, zs, rfl, rfl, hH, hB, hz, q⟩ := h
  cases rx
  cases ry
  obtain ⟨its, r, pl, _⟩ := I.list hH
  obtain ⟨its2, r2, pl2, _⟩ := I.list hB
  obtain ⟨⟨cls, dd, data, sl⟩, n, ho, hc, hdd, hd⟩ := pl
  obtain ⟨⟨cls2, dd2, data2, sl2⟩, n2, ho2, hc2, hdd2, hd2⟩ := pl2
  simp only at hc hd hc2 hd2
  subst hc hd hc2 hd2
  have l1 := r.length
  have l2 := r2.length
  refine concat_meets ⟨_, ho, rfl⟩ ⟨_, ho2, rfl⟩ noFill_list_add seq_list_add PySem.F.slot_list_add PySem.F.entry_list_add (PySem.F.args_list_add_2 _ _) (list_addW l b its.toArray its2.toArray n n2 dd dd2 sl sl2 (by rw [List.size_toArray, List.size_toArray]; omega)) ⟨ho, ho2, ?_⟩
  have ea : its.toArray ++ its2.toArray = (its ++ its2).toArray := by simp
  rw [ea]
  exact ⟨.ref _, _, I.lnew (t' := s.toks) (r.append r2) (by rw [List.length_append]; omega), rfl, q _ I.fresh⟩
def oCatL : DO2 := fun x y cs P => ∃ xs ys, lstOf cs x = some xs ∧ lstOf cs y = some ys ∧ xs.length + ys.length ≤ 100000 ∧ P (.lst (xs ++ ys)) cs
def oCatM : DO2 := fun x y cs P => ∃ xs ys, lstOf cs x = some xs ∧ lstOf cs y = some ys ∧ xs.length + ys.length ≤ 100000 ∧ ∀ p, p ∉ adr cs → P (.opq (.ref p)) ((p, .lst (xs ++ ys)) :: cs)
theorem adq_catL : Adq K (rCatQ K) oCatL := fun F cs H x y dx dy P Q s rx ry ho pe => by
  obtain ⟨xs, ys, e1, e2, hl, h⟩ := ho
  obtain ⟨p, vs, rfl, h1, r1⟩ := lstOf_sq s rx e1
  obtain ⟨q, us, rfl, h2, r2⟩ := lstOf_sq s ry e2
  refine ⟨_, _, _, _, rfl, rfl, h1, h2, by rw [r1.length, r2.length]; exact Nat.le_trans hl (by decide), fun p hp => ?_⟩
  obtain ⟨s2, e2⟩ := s.new (o := .lst (vs ++ us)) hp
  exact pe _ cs _ _ s2 (.lst (SqL.of e2) ((r1.append r2).mono s2.gr)) h
theorem d_catL (ha : DE X W a wa) (hb : DE X W b wb) : DE X W (.BinOp a .Add b pos) (wOp oCatL wa wb) := d_op op_catQ adq_catL ha hb
def oLenX : DOn := fun ds cs P => ∃ d xs, ds = [d] ∧ lstOf cs d = some xs ∧ P (.int (xs.length : Int)) cs
def oListX : DOn := fun ds cs P => ∃ d xs, ds = [d] ∧ (lstOf cs d = some xs ∨ d = .tup xs) ∧ P (.lst xs) cs
def oListM : DOn := fun ds cs P => ∃ d xs, ds = [d] ∧ (lstOf cs d = some xs ∨ d = .tup xs) ∧ ∀ p, p ∉ adr cs → P (.opq (.ref p)) ((p, .lst xs) :: cs)
theorem seq_inv {F G0 : Hp} {cs : Cs} {x : V} {d : D} {xs : List D} (s : Sta K F G0 cs H) (r : Rep K (pur F cs H) x d) (h : lstOf cs d = some xs ∨ d = .tup xs) : ∃ p vs, x = .ref p ∧ (SqL K H p vs ∨ SqT K H p vs) ∧ RepL K (pur F cs H) vs xs := by
  rcases h with h | rfl
  · obtain ⟨p, vs, e, h1, r1⟩ := lstOf_sq s r h
    exact ⟨p, vs, e, .inl h1, r1⟩
  · cases r with
    | tup h r => exact ⟨_, _, rfl, .inr (ex_t pur_le h), r⟩
theorem adq_listM : AdqN K (fun xs H Q => ∃ p ys, xs = [.ref p] ∧ (SqL K H p ys ∨ SqT K H p ys) ∧ ∀ l, H l = none → Q (.ref l) (upd H l (.lst ys))) oListM := fun F cs H xs ds P Q s r ho pe => by
  obtain ⟨d, ys, rfl, e, h⟩ := ho
  cases r with
  | cons r1 t =>
    cases t
    obtain ⟨p, vs, rfl, h1, r1⟩ := seq_inv s r1 e
    refine ⟨_, _, rfl, h1, fun l hl => ?_⟩
    have s2 := s.newM (m := .lst ys) (o := .lst vs) hl r1
    exact pe _ _ _ _ s2 (.opq _) (h l (s.notin hl).2)
def oTupX : DOn := fun ds cs P => ∃ d xs, ds = [d] ∧ (lstOf cs d = some xs ∨ d = .tup xs) ∧ P (.tup xs) cs
def oMin2 : DOn := fun ds cs P => ∃ i j, ds = [.int i, .int j] ∧ P (.int (if j < i then j else i)) cs
theorem adq_min2 : AdqN K (fun xs H Q => ∃ i j, xs = [.int i, .int j] ∧ Q (.int (if j < i then j else i)) H) oMin2 := fun F cs H xs ds P Q s r ho pe => by
  obtain ⟨i, j, rfl, h⟩ := ho
  cases r with
  | cons r1 t =>
    cases t with
    | cons r2 t => cases t; cases r1; cases r2; exact ⟨_, _, rfl, pe H cs _ _ s (.int _) h⟩
def oMax2 : DOn := fun ds cs P => ∃ i j, ds = [.int i, .int j] ∧ P (.int (if i < j then j else i)) cs
end
section
variable {cs : Cs} {P : DP} {d e : D} {xs ys : List D} {p : Addr}
theorem r_catLL (hl : xs.length + ys.length ≤ 100000) (h : P (.lst (xs ++ ys)) cs) : oCatL (.lst xs) (.lst ys) cs P := ⟨xs, ys, rfl, rfl, hl, h⟩
theorem r_catML (hl : xs.length + ys.length ≤ 100000) (h : ∀ p, p ∉ adr cs → P (.opq (.ref p)) ((p, .lst (xs ++ ys)) :: cs)) : oCatM (.lst xs) (.lst ys) cs P := ⟨xs, ys, rfl, rfl, hl, h⟩
theorem r_lenH (h : P (.int (xs.length : Int)) ((p, .lst xs) :: cs)) : oLenX [.opq (.ref p)] ((p, .lst xs) :: cs) P := ⟨_, xs, rfl, lstOf_h, h⟩
theorem r_lenXL (h : P (.int (xs.length : Int)) cs) : oLenX [.lst xs] cs P := ⟨_, xs, rfl, rfl, h⟩
theorem r_tupH (h : P (.tup xs) ((p, .lst xs) :: cs)) : oTupX [.opq (.ref p)] ((p, .lst xs) :: cs) P := ⟨_, xs, rfl, .inl lstOf_h, h⟩
theorem r_tupXL (h : P (.tup xs) cs) : oTupX [.lst xs] cs P := ⟨_, xs, rfl, .inl rfl, h⟩
theorem r_tupXT (h : P (.tup xs) cs) : oTupX [.tup xs] cs P := ⟨_, xs, rfl, .inr rfl, h⟩
theorem r_listXH (h : P (.lst xs) ((p, .lst xs) :: cs)) : oListX [.opq (.ref p)] ((p, .lst xs) :: cs) P := ⟨_, xs, rfl, .inl lstOf_h, h⟩
theorem r_listXL (h : P (.lst xs) cs) : oListX [.lst xs] cs P := ⟨_, xs, rfl, .inl rfl, h⟩
theorem r_listXT (h : P (.lst xs) cs) : oListX [.tup xs] cs P := ⟨_, xs, rfl, .inr rfl, h⟩
theorem r_listML (h : ∀ p, p ∉ adr cs → P (.opq (.ref p)) ((p, .lst xs) :: cs)) : oListM [.lst xs] cs P := ⟨_, xs, rfl, .inl rfl, h⟩
theorem r_listMT (h : ∀ p, p ∉ adr cs → P (.opq (.ref p)) ((p, .lst xs) :: cs)) : oListM [.tup xs] cs P := ⟨_, xs, rfl, .inr rfl, h⟩
theorem r_min2 {i j : Int} (h : P (.int (if j < i then j else i)) cs) : oMin2 [.int i, .int j] cs P := ⟨_, _, rfl, h⟩
theorem r_max2 {i j : Int} (h : P (.int (if i < j then j else i)) cs) : oMax2 [.int i, .int j] cs P := ⟨_, _, rfl, h⟩
theorem r_sumL {ns : List Int} (h : P (.int ns.sum) cs) : oSumA [.lst (ns.map D.int)] cs P := ⟨ns, .inl rfl, h⟩
theorem r_sumT {ns : List Int} (h : P (.int ns.sum) cs) : oSumA [.tup (ns.map D.int)] cs P := ⟨ns, .inr rfl, h⟩
end
section
variable {X : Cx} {W : WX} {K : PySem.W.Frag} {σ : L2.St} {H : Hp} {a e : Expr} {wa : DL.WE} {w : WA} {cpos apos : Pos}
def oClear : DMt := fun x ds cs P => ∃ p xs, x = .opq (.ref p) ∧ ds = [] ∧ look p cs = some (.lst xs) ∧ P .non (put p (.lst []) cs)
theorem r_clearH {cs : Cs} {P : DP} {p : Addr} {xs : List D} (h : P .non ((p, .lst []) :: cs)) : oClear (.opq (.ref p)) [] ((p, .lst xs) :: cs) P := ⟨p, xs, rfl, rfl, look_hd, by rw [put_hd]; exact h⟩
theorem RepL.erase {G : Hp} : ∀ {vs : List V} {ds : List D} (n : Nat), RepL K G vs ds → RepL K G (vs.eraseIdx n) (ds.eraseIdx n)
  | _, _, _, .nil => .nil
  | _, _, 0, .cons _ r => r
  | _, _, n + 1, .cons h r => .cons h (r.erase n)
end
end DL
namespace DL
open PySem PySem.Spec PyProof.Rows L2
theorem liesR_iff {l t w h x y : Rat} : liesR l t w h x y = true ↔ (l ≤ x ∧ x < l + w) ∧ (t ≤ y ∧ y < t + h) := by
  unfold liesR
  simp only [Bool.and_eq_true, Bool.not_eq_true', decide_eq_false_iff_not, decide_eq_true_eq, Rat.not_lt]
  exact ⟨fun ⟨a, b, c, d⟩ => ⟨⟨a, b⟩, c, d⟩, fun ⟨⟨a, b⟩, c, d⟩ => ⟨a, b, c, d⟩⟩
theorem edge_le {a b : Rat} (hb : 0 < b) {ws : List Int} (h : WOk ws) {i j : Nat} (hij : i ≤ j) : edgeAt a b ws i ≤ edgeAt a b ws j := by
  induction j with
  | zero => rw [show i = 0 by omega]; exact Rat.le_refl
  | succ j ih =>
    by_cases e : i = j + 1
    · rw [e]; exact Rat.le_refl
    · exact Rat.le_trans (ih (by omega)) (edge_mono hb h j)
theorem split_sub {b : Bx} {ws : List Int} (hp : b.Pos) (hw : WOk ws) (dn : Bool) {i : Nat} (hi : i < ws.length) {x y : Rat} (h : (splitAt_ b ws dn i).lies x y = true) : b.lies x y = true := by
  have ew : ws[i]? = some ws[i] := List.getElem?_eq_getElem hi
  cases dn with
  | true =>
    rw [splitAt_down ew] at h
    have h := liesR_iff.mp h
    rw [edge_step _ _ hw ew] at h
    refine liesR_iff.mpr ⟨h.1, Rat.le_trans ?_ h.2.1, ltleR h.2.2 ?_⟩
    · have := edge_le (a := b.t) hp.h hw (Nat.zero_le i); rwa [edge_zero] at this
    · have := edge_le (a := b.t) hp.h hw (show i + 1 ≤ ws.length from hi); rwa [edge_len _ _ hw] at this
  | false =>
    rw [splitAt_across ew] at h
    have h := liesR_iff.mp h
    rw [edge_step _ _ hw ew] at h
    refine liesR_iff.mpr ⟨⟨Rat.le_trans ?_ h.1.1, ltleR h.1.2 ?_⟩, h.2⟩
    · have := edge_le (a := b.l) hp.w hw (Nat.zero_le i); rwa [edge_zero] at this
    · have := edge_le (a := b.l) hp.w hw (show i + 1 ≤ ws.length from hi); rwa [edge_len _ _ hw] at this
theorem laid_mem {b : Bx} {ws zs : List Int} (hp : b.Pos) (hw : WOk ws) (hz : SzOk zs ws.length) (dn : Bool) {n : Nat} (hs : b.Sz n) {c : Bx} (h : c ∈ laidB b ws zs dn) : c.Pos ∧ c.Sz ((n + n + 24) + (n + n + 24) + 24) ∧ b.lies c.l c.t = true := by
  have hs' := sums_wok hw hz
  unfold laidB at h
  obtain ⟨i, hi, h⟩ := List.mem_flatMap.mp h
  have hi := List.mem_range.mp hi
  have ei : (sumsOf ws zs)[i]? = some _ := sums_get hi
  unfold laidAt splitB at h
  obtain ⟨j, hj, rfl⟩ := List.mem_map.mp h
  have hj := List.mem_range.mp hj
  have ew := List.getElem?_eq_getElem hj
  have p1 := splitAt_pos hp hs' dn ei
  have rw_ := row_wok hw hz hi
  have p2 := splitAt_pos p1 rw_ (!dn) ew
  refine ⟨p2, splitAt_sz (splitAt_sz hs hs' dn (by rw [sums_len]; exact hi)) rw_ _ hj, ?_⟩
  refine split_sub hp hs' dn (by rw [sums_len]; exact hi) (split_sub p1 rw_ (!dn) hj ?_)
  exact liesR_lt p2.w p2.h
end DL
namespace DL
open PySem PySem.Spec PyProof.Rows L2
theorem shiftS {prog : Program} {w : World} {A : Around} {I : Addr} {fp wr : List Addr} {G : Array GenState → Array GenState → Prop} {n : Nat} {P : Nat → Value → Prop} {St : Nat → Shared → Prop} (W : WalksS prog w A I fp wr G (n + 1) P St) :
    WalksS prog w A I fp wr G n (fun i => P (i + 1)) (fun i => St (i + 1)) where
  sub := W.sub
  grefl := W.grefl
  gtrans := W.gtrans
  frame := fun i s h' tk st => W.frame (i + 1) s h' tk st
  item := fun i s Q E hi st hQ => W.item (i + 1) s Q E (Nat.succ_lt_succ hi) st hQ
  done := fun s Q E st hQ => W.done s Q E st hQ
  self := fun i s Q E st hQ => W.self (i + 1) s Q E st hQ
section
variable {prog : Program} {w : World} {A : Around} {E : Value → Shared → Prop} {s : Shared}
theorem unpack_star {l : Addr} {x : Value} {xs : List Value} {Q : List Value → Shared → Prop} (hh : A.handled = none) (hl : s.heap.IsList l (x :: xs).toArray) (hz : xs.length ≤ sizeLine)
    (hQ : ∀ (h' : Heap) (tk : Nat), (∀ b o, s.heap.get? b = some o → h'.get? b = some o) → Q [x, .ref h'.objs.size] { s with heap := h'.push { cls := .type "list", data := .seq xs.toArray }, toks := tk }) :
    wpAny (model prog w) A (unpackItems (.ref l) 2 (some 1)) Q E s := by
  have hlt : l ≠ s.heap.objs.size := by obtain ⟨o, ho, _⟩ := hl; exact Nat.ne_of_lt (Heap.lt_size ho)
  have hne : ¬ s.heap.objs.size < s.heap.objs.size := Nat.lt_irrefl _
  unfold unpackItems
  refine wpAny_bind ?_
  unfold notIterableAtAll
  refine wpAny_bind (wpAny_specialOf hl.typeIs slot_list_iter.lookup ?_)
  refine wpAny_pure ?_
  simp only [Bool.false_eq_true, if_false]
  refine wpAny_bind (wpAny_holding (wpAny_pyIter_list hl ?_))
  have hl1 : (s.heap.push { cls := .type "list_iterator", data := .fields #[.ref l, .int 0 0] }).IsList l (x :: xs).toArray := hl.at fun o e => Heap.get?_push_of_some _ e
  have hi1 : (s.heap.push { cls := .type "list_iterator", data := .fields #[.ref l, .int 0 0] }).IsListIter s.heap.objs.size l 0 := ⟨_, Heap.get?_push_size _ rfl, rfl, rfl⟩
  refine wpAny_bind (wpAny_holding ?_)
  show wpAny _ _ (pyNext (.ref s.heap.objs.size) >>= _) _ _ _
  refine wpAny_bind (wpAny_pyNext_list_item hi1 hl1 (x := x) (by simp) fun h1 hit1 hs1 => ?_)
  refine wpAny_bind (wpAny_holding (wpAny_pure (wpAny_pure ?_)))
  simp only [List.length_cons, List.length_nil, Nat.zero_add, Nat.lt_irrefl, if_false]
  have hl2 : h1.IsList l (x :: xs).toArray := hl1.extBut hs1.extBut hlt
  have hsz : s.heap.objs.size < h1.objs.size := by obtain ⟨o, ho, _⟩ := hit1; exact Heap.lt_size ho
  have hsz2 : l < h1.objs.size := by obtain ⟨o, ho, _⟩ := hl2; exact Heap.lt_size ho
  have W0 := (Walks.list (prog := prog) (w := w) (A := A.in1) hh s.heap.objs.size l hlt (x :: xs).toArray).toS
  have W1 : WalksS prog w A.in1 s.heap.objs.size [s.heap.objs.size, l] [s.heap.objs.size] (fun a b => b = a) xs.length (fun i v => (x :: xs).toArray[i + 1]? = some v) (fun i sh => sh.heap.IsListIter s.heap.objs.size l (i + 1) ∧ sh.heap.IsList l (x :: xs).toArray) := shiftS (n := xs.length) W0
  refine wpAny_bind (wpAny_holding (wpAny_collect_iter (T := "list_iterator") (.inr (.inr (.inl rfl))) W1 (fun i sh st => st.1.typeIs) ⟨hit1, hl2⟩ (fun b hb => ?_) (by simp) (fun s' acc hm hit => ?_) hz))
  · rcases List.mem_cons.mp hb with rfl | hb
    · exact hsz
    · rw [List.mem_singleton.mp hb]; exact hsz2
  have eacc : acc.toList = xs := by
    refine List.ext_getElem? fun i => ?_
    obtain ⟨e1, e2⟩ := hit
    by_cases hi : i < xs.length
    · have hi' : i < acc.size := by omega
      have := e2 i acc[i] (by simp [hi'])
      rw [Array.getElem?_toList, Array.getElem?_eq_getElem hi']
      simpa using this.symm
    · rw [List.getElem?_eq_none (by simp; omega), List.getElem?_eq_none (by omega)]
  rw [eacc]
  simp only [Nat.sub_self, show 2 - 1 - 1 = 0 from rfl, Nat.not_lt_zero, if_false, Nat.sub_zero, List.take_length, List.drop_length]
  refine wpAny_bind (wpAny_newObj_type ?_ (by size_fits))
  refine wpAny_pure ?_
  obtain ⟨hp, g, d, tk, os⟩ := s'
  have hg : g = s.gens := hm.gens
  have hd : d = s.drawn := hm.drawn
  have ho : os = s.os := hm.os
  subst hg hd ho
  refine hQ hp _ fun b o e => hm.heap b o (fun z => ?_) (hs1.extBut b o (Nat.ne_of_lt (Heap.lt_size e)) (Heap.get?_push_of_some _ e))
  rw [List.mem_singleton.mp z] at e
  exact Nat.lt_irrefl _ (Heap.lt_size e)
end
section
variable {X : Cx} {W : WX} {K : PySem.W.Frag} {σ : L2.St} {H : Hp} {pos : Pos}
def gStarV (K : PySem.W.Frag) (g1 g2 : TG) : TG := fun v σ H Q => ∃ p x xs, v = .ref p ∧ SqL K H p (x :: xs) ∧ ∀ l, H l = none → g1 x σ (upd H l (.lst xs)) fun σ1 H1 => g2 (.ref l) σ1 H1 Q
theorem pg_star {e1 e2 : Expr} {ps : Pos} {k : Nat} {g1 g2 : TG} (hc : X.calm = true) (h1 : PG X e1 g1) (h2 : PG X e2 g2)
    (hn : assignEach [e1, .Starred e2 ps] X.env = [(false, assign e1 X.env), (true, assign e2 X.env)] := by rfl) : PG X (.Tuple [e1, .Starred e2 ps] k pos) (gStarV X.K g1 g2) := by
  refine ⟨fun pins s σ H v u Q I r hw => ?_⟩
  obtain ⟨p, x, xs, rfl, hq, hw⟩ := hw
  cases r
  obtain ⟨its, rv, pl, hz⟩ := I.list hq
  cases rv with
  | @cons _ u0 _ ur rx rr =>
    rw [assign_Tuple, hn]
    refine wpAny_bind (wpAny_standAt ?_)
    show wpAny _ _ (unpackItems (.ref p) 2 (some 1) |> fun m => do assignInOrder [assign e1 X.env, assign e2 X.env] (← holding [.ref p] m)) _ _ _
    have hzr : ur.length ≤ sizeLine := by
      have := Paired.length rr
      rw [← this]
      simp at hz
      omega
    refine wpAny_bind (wpAny_holding (unpack_star (I.ok.hd hc) pl.isList hzr fun h' tk hk => ?_))
    have I1 : Inv X pins σ H { s with heap := h', toks := tk } := I.kept (t' := tk) hk
    have I2 := I1.lnew (t' := tk) (its := ur) (ys := xs) rr (by have := Paired.length rr; rw [this]; exact hzr)
    refine assignInOrder_cons (thn (h1.run pins _ σ _ x u0 _ I2 rx (hw _ I1.fresh)) fun _ s2 ⟨σ2, H2, I3, q2⟩ => ?_)
    refine assignInOrder_cons (thn (h2.run pins _ σ2 H2 (.ref _) (.ref _) _ I3 rfl q2) fun _ s3 ⟨σ3, H3, I4, q3⟩ => ?_)
    exact assignInOrder_nil ⟨σ3, H3, I4, q3⟩
def gStar (g1 g2 : WG) : WG := fun d ρ k => match d with
  | .lst (x :: xs) => g1 x ρ fun ρ1 => g2 (.lst xs) ρ1 k
  | _ => False
theorem dg_star {e1 e2 : Expr} {ps : Pos} {kk : Nat} {g1 g2 : WG} (hc : X.calm = true) (h1 : DG X e1 g1) (h2 : DG X e2 g2)
    (hn : assignEach [e1, .Starred e2 ps] X.env = [(false, assign e1 X.env), (true, assign e2 X.env)] := by rfl) : DG X (.Tuple [e1, .Starred e2 ps] kk pos) (gStar g1 g2) :=
  PG.imp (pg_star hc h1 h2 hn) fun v σ H Q hq => by
    obtain ⟨F, cs, ρ, d, k, s, re, r, hw, q⟩ := hq
    cases d <;> try exact hw.elim
    rename_i ds
    cases ds with
    | nil => exact hw.elim
    | cons x xs =>
      cases r with
      | lst h r =>
        cases r with
        | cons r1 r2 =>
          refine ⟨_, _, _, rfl, ex_l pur_le h, fun l hl => ?_⟩
          obtain ⟨s2, e2⟩ := s.new (o := .lst _) hl
          refine ⟨F, cs, ρ, _, _, s2.self, re.mono s2.gr, r1.mono s2.gr, hw, fun σ1 ρ1 H1 s1 re1 h1 => ?_⟩
          exact ⟨F, cs, ρ1, _, k, s1.self, re1, .lst (ex_l s1.gr (SqL.of e2)) (r2.mono (s2.gr.trans s1.gr)), h1, fun σ2 ρ2 H2 s3 re2 h2 => q σ2 ρ2 H2 (s3.from_ (s2.gr.trans s1.gr)) re2 h2⟩
theorem r_gStar {g1 g2 : WG} {x : D} {xs : List D} {ρ : DL.Env} {k : DL.Env → Prop} (h : g1 x ρ fun ρ1 => g2 (.lst xs) ρ1 k) : gStar g1 g2 (.lst (x :: xs)) ρ k := h
def oSlAny : D → Option Int → Option Int → Cs → DP → Prop := fun x lo hi cs P => match x with
  | .lst xs => P (.lst (DL.cutD xs lo hi)) cs
  | .tup xs => P (.tup (DL.cutD xs lo hi)) cs
  | _ => False
theorem r_slAL {xs : List D} {lo hi : Option Int} {cs : Cs} {P : DP} (h : P (.lst (DL.cutD xs lo hi)) cs) : oSlAny (.lst xs) lo hi cs P := h
theorem r_slAT {xs : List D} {lo hi : Option Int} {cs : Cs} {P : DP} (h : P (.tup (DL.cutD xs lo hi)) cs) : oSlAny (.tup xs) lo hi cs P := h
theorem del_none {p : Addr} : ∀ {cs : Cs}, look p cs = none → del p cs = cs
  | [], _ => rfl
  | (a, x) :: r, h => by
    unfold look at h
    split at h
    · cases h
    · rename_i e
      unfold del
      rw [if_neg e, del_none h]
def wGone (we : DL.WE) : DL.WE := fun ρ cs P Z => we ρ cs (fun d cs1 => ∃ p, P d (del p cs1)) Z
theorem d_gone {e : Expr} {we : DL.WE} (h : DE X W e we) : DE X W e (wGone we) := PE.imp h fun σ H Q h => by
  obtain ⟨F, cs, ρ, P, Z, s, re, hw, pe, px⟩ := h
  refine ⟨F, cs, ρ, _, Z, s, re, hw, fun H1 cs1 v d s1 r1 h1 => ?_, px⟩
  obtain ⟨p, h1⟩ := h1
  cases e : look p cs1 with
  | none => rw [del_none e] at h1; exact pe H1 cs1 v d s1 r1 h1
  | some m =>
    obtain ⟨s2, g2, _⟩ := s1.frz e
    exact pe H1 _ v d s2 (r1.mono g2) h1
theorem r_gone {we : DL.WE} {ρ : DL.Env} {cs : Cs} {P : DP} {Z : XZ} (h : we ρ cs (fun d cs1 => ∃ p, P d (del p cs1)) Z) : wGone we ρ cs P Z := h
theorem r_goneH {p : Addr} {m : MO} {cs : Cs} {P : DP} {d : D} (h : P d cs) : ∃ p', P d (del p' ((p, m) :: cs)) := ⟨p, by rw [del_hd]; exact h⟩
end
end DL
namespace DL
open PySem PySem.Spec PyProof.Rows L2
def mxR (m y : Rat) : Rat := if m < y then y else m
def maxL : List Rat → Rat
  | [] => 0
  | x :: xs => xs.foldl mxR x
structure IsMax (m : Rat) (l : List Rat) : Prop where
  mem : m ∈ l
  le : ∀ y ∈ l, y ≤ m
theorem IsMax.uniq {m m' : Rat} {l : List Rat} (h : IsMax m l) (h' : IsMax m' l) : m = m' := Rat.le_antisymm (h'.le m h.mem) (h.le m' h'.mem)
theorem atD_zero (x : D) (xs : List D) : atD (x :: xs) 0 = some x := atI_nat (j := 0) rfl
theorem r_ix0 {x : D} {xs : List D} {cs : Cs} {P : DP} (h : P x cs) : oIx (.lst (x :: xs)) (.int 0) cs P := r_ixL (atD_zero x xs) h
theorem r_ix0T {x : D} {xs : List D} {cs : Cs} {P : DP} (h : P x cs) : oIx (.tup (x :: xs)) (.int 0) cs P := r_ixT (atD_zero x xs) h
theorem mxR_or (m y : Rat) : mxR m y = m ∨ mxR m y = y := by
  unfold mxR
  split
  · exact .inr rfl
  · exact .inl rfl
def rsh (b : Bx) (dn : Bool) (S W w : Int) : Rat := shapeR ((if dn then b.h else b.w) * Rat.divInt S W) ((if dn then b.w else b.h) * Rat.divInt w S)
def rowShape (b : Bx) (dn : Bool) (ws : List Int) (i n : Nat) : Rat := maxL (((ws.drop i).take n).map (rsh b dn ((ws.drop i).take n).sum ws.sum))
theorem SzOk.at_ {zs : List Int} {n : Nat} (h : SzOk zs n) {i : Nat} {z : Int} (hz : zs[i]? = some z) : 1 ≤ z.toNat ∧ (preS zs i).toNat + z.toNat ≤ n ∧ 1 ≤ z ∧ 0 ≤ preS zs i ∧ preS zs i + z ≤ n := by
  have h1 := preS_nonneg h.pos i
  have h2 := h.pre_le (i + 1)
  have h3 := h.pos z (List.mem_of_getElem? hz)
  rw [preS_succ hz] at h2
  omega
theorem SzOk.ne {zs : List Int} {n : Nat} (h : SzOk zs n) (hn : 1 ≤ n) : 0 < zs.length := by
  cases zs with
  | nil => have := h.sum; simp at this; omega
  | cons _ _ => simp
end DL
namespace DL
open PySem PySem.Spec PyProof.Rows L2
def absR (x : Rat) : Rat := if x < 0 then -x else x
theorem Sz.absR {n : Nat} {x : Rat} (h : Sz n x) : Sz n (absR x) := by
  unfold DL.absR
  split
  · exact h.neg
  · exact h
end DL
namespace DL
open PySem PySem.Spec PyProof.Rows L2
theorem ref_inj {o : Option Value} {a b : Addr} (h1 : o = some (.ref a)) (h2 : o = some (.ref b)) : a = b := by
  rw [h1] at h2
  cases h2
  rfl
def sp_law : DSp := fun ds cs P _ => ∃ ns : List Int, ds = [.lst (ns.map D.int)] ∧ ns.length ≤ 63 ∧ cs = [] ∧ ∀ cs', P (.bl true) cs'
theorem calmF {P : Program} {w : World} {K : PySem.W.Frag} {mg : Str → Option Value} {base : Heap} {k : Nat} {f : Addr} {fd : FuncData} {ps : List Str} {sp : Sp} (h : FnOk P w K mg base (L2.CX P w) k f fd ps sp) :
    FnOk P w K mg base CX0 k f fd ps (fun vs H Q _ => sp vs H Q fun _ _ _ => False) := by
  refine ⟨fun vs H Q E q => h.len vs H Q _ q, fun A outer s H args us vs Q E hr e0 hb r q => ?_⟩
  refine codeAny_mono (h.run A outer s H args us vs Q (fun _ _ _ => False) hr e0 hb r q) fun r s' hq => ?_
  cases r with
  | error e =>
    obtain ⟨_, _, _, _, _, _, _, _, _, _, _, _, z⟩ := hq
    exact z.elim
  | ok fl => cases fl <;> exact hq
end DL
namespace DL
open PySem PySem.Spec PyProof.Rows L2
section
variable {κ : Type} [DecidableEq κ] {α : Type}
/-- what a table holds at k -/
def lk (kvs : List (κ × α)) (k : κ) : Option α := match kvs with
  | [] => none
  | p :: r => if p.1 = k then some p.2 else lk r k
/-- a table with k at v -/
def putD (kvs : List (κ × α)) (k : κ) (v : α) : List (κ × α) :=
  if (lk kvs k).isSome = true then kvs.map fun p => (p.1, if p.1 = k then v else p.2) else kvs ++ [(k, v)]
theorem look_pos {p : κ × α} {r : List (κ × α)} {k : κ} (e : p.1 = k) : lk (p :: r) k = some p.2 := by
  rw [lk, if_pos e]
theorem look_neg {p : κ × α} {r : List (κ × α)} {k : κ} (e : ¬ p.1 = k) : lk (p :: r) k = lk r k := by
  rw [lk, if_neg e]
theorem look_app (j : κ) (y : α) (k : κ) : ∀ kvs : List (κ × α), lk (kvs ++ [(k, y)]) j = (lk kvs j).or (if j = k then some y else none)
  | [] => by
    by_cases e : k = j
    · rw [if_pos e.symm]; exact look_pos (p := (k, y)) e
    · rw [if_neg (fun z => e z.symm)]; exact look_neg (p := (k, y)) e
  | p :: r => by
    rw [List.cons_append]
    by_cases e : p.1 = j
    · rw [look_pos e, look_pos e]; rfl
    · rw [look_neg e, look_neg e, look_app j y k r]
theorem putD_new {kvs : List (κ × α)} {k : κ} (v : α) (h : lk kvs k = none) : putD kvs k v = kvs ++ [(k, v)] := by
  unfold putD
  rw [h]
  exact if_neg (fun z => by cases z)
theorem putD_len (kvs : List (κ × α)) (k : κ) (v : α) : (putD kvs k v).length ≤ kvs.length + 1 := by
  unfold putD
  split
  · rw [List.length_map]; exact Nat.le_succ _
  · rw [List.length_append]; exact Nat.le_refl _
theorem look_none_of {kvs : List (κ × α)} {k : κ} (h : ∀ p ∈ kvs, p.1 ≠ k) : lk kvs k = none := by
  induction kvs with
  | nil => rfl
  | cons p r ih => rw [look_neg (h p (List.mem_cons_self ..)), ih fun q hq => h q (List.mem_cons_of_mem _ hq)]
/-- a table made of a list: by a key that is one's own -/
theorem look_map {γ : Type} (f : γ → κ) (g : γ → α) (x : γ) : ∀ (l : List γ), x ∈ l → (∀ y ∈ l, f y = f x → y = x) → lk (l.map fun y => (f y, g y)) (f x) = some (g x)
  | [], h, _ => by cases h
  | y :: r, h, hi => by
    rw [List.map_cons]
    by_cases e : f y = f x
    · rw [look_pos (p := (f y, g y)) e, hi y (List.mem_cons_self ..) e]
    · rw [look_neg (p := (f y, g y)) e]
      refine look_map f g x r ?_ fun z hz => hi z (List.mem_cons_of_mem _ hz)
      rcases List.mem_cons.mp h with q | q
      · exact absurd (by rw [q]) e
      · exact q
end
inductive RG (K : PySem.W.Frag) (G : Hp) {κ : Type} : List (κ × V) → List (κ × D) → Prop
  | nil : RG K G [] []
  | cons {k : κ} {v : V} {vs : List (κ × V)} {d : D} {ds : List (κ × D)} : Rep K G v d → RG K G vs ds → RG K G ((k, v) :: vs) ((k, d) :: ds)
def RepQ (K : PySem.W.Frag) (G : Hp) : Option V → Option D → Prop
  | none, none => True
  | some v, some d => Rep K G v d
  | _, _ => False
section
variable {K : PySem.W.Frag} {G G' : Hp} {κ : Type} [DecidableEq κ]
theorem RepK.rg : ∀ {xs : List (Key × V)} {ds : List (Key × D)}, RepK K G xs ds → RG K G xs ds
  | _, _, .nil => .nil
  | _, _, .cons h r => .cons h r.rg
theorem RepT.rg : ∀ {xs : List (List Key × V)} {ds : List (List Key × D)}, RepT K G xs ds → RG K G xs ds
  | _, _, .nil => .nil
  | _, _, .cons h r => .cons h r.rg
theorem RG.rk {xs : List (Key × V)} {ds : List (Key × D)} (h : RG K G xs ds) : RepK K G xs ds := by
  induction h with
  | nil => exact .nil
  | cons h _ ih => exact .cons h ih
theorem RG.rt {xs : List (List Key × V)} {ds : List (List Key × D)} (h : RG K G xs ds) : RepT K G xs ds := by
  induction h with
  | nil => exact .nil
  | cons h _ ih => exact .cons h ih
theorem RG.mono (e : Ex G G') {xs : List (κ × V)} {ds : List (κ × D)} (h : RG K G xs ds) : RG K G' xs ds := by
  induction h with
  | nil => exact .nil
  | cons h _ ih => exact .cons (h.mono e) ih
theorem RG.length {xs : List (κ × V)} {ds : List (κ × D)} (h : RG K G xs ds) : xs.length = ds.length := by
  induction h with
  | nil => rfl
  | cons _ _ ih => rw [List.length_cons, List.length_cons, ih]
theorem RG.keys {xs : List (κ × V)} {ds : List (κ × D)} (h : RG K G xs ds) : xs.map (·.1) = ds.map (·.1) := by
  induction h with
  | nil => rfl
  | cons _ _ ih => rw [List.map_cons, List.map_cons, ih]
theorem RG.val {xs : List (κ × V)} {ds : List (κ × D)} (h : RG K G xs ds) (k : κ) : RepQ K G (valV xs k) (lk ds k) := by
  induction h with
  | nil => exact True.intro
  | @cons j v vs d ds hr _ ih =>
    by_cases e : j = k
    · rw [valV_pos (p := (j, v)) e, look_pos (p := (j, d)) e]; exact hr
    · rw [valV_neg (p := (j, v)) e, look_neg (p := (j, d)) e]; exact ih
theorem RG.app {xs ys : List (κ × V)} {ds es : List (κ × D)} (h : RG K G xs ds) (h2 : RG K G ys es) : RG K G (xs ++ ys) (ds ++ es) := by
  induction h with
  | nil => exact h2
  | cons h _ ih => exact .cons h ih
theorem RG.put {xs : List (κ × V)} {ds : List (κ × D)} (h : RG K G xs ds) (k : κ) {v : V} {d : D} (r : Rep K G v d) : RG K G (putK xs k v) (putD ds k d) := by
  have q := h.val k
  unfold putK putD
  rw [valV_any]
  have e : (valV xs k).isSome = (lk ds k).isSome := by
    revert q
    cases valV xs k <;> cases lk ds k <;> intro q <;> first | rfl | exact (show False from q).elim
  rw [e]
  by_cases a : (lk ds k).isSome = true
  · rw [if_pos a, if_pos a]
    clear q e a
    induction h with
    | nil => exact .nil
    | @cons j v' vs d' ds hr _ ih =>
      rw [List.map_cons, List.map_cons]
      by_cases z : j = k
      · have e1 : (if (j, v').1 = k then ((j, v').1, v) else (j, v')) = (j, v) := if_pos z
        have e2 : ((j, d').1, if (j, d').1 = k then d else (j, d').2) = (j, d) := by rw [if_pos z]
        rw [e1, e2]; exact .cons r ih
      · have e1 : (if (j, v').1 = k then ((j, v').1, v) else (j, v')) = (j, v') := if_neg z
        have e2 : ((j, d').1, if (j, d').1 = k then d else (j, d').2) = (j, d') := by rw [if_neg z]
        rw [e1, e2]; exact .cons hr ih
  · rw [if_neg a, if_neg a]
    exact h.app (.cons r .nil)
theorem RG.get {xs : List (κ × V)} {ds : List (κ × D)} (h : RG K G xs ds) : ∀ {i : Nat} {k : κ} {d : D}, ds[i]? = some (k, d) → ∃ v, xs[i]? = some (k, v) ∧ Rep K G v d := by
  induction h with
  | nil => intro i k d e; simp at e
  | @cons j v vs d' ds hr _ ih =>
    intro i k d e
    cases i with
    | zero =>
      simp at e
      obtain ⟨rfl, rfl⟩ := e
      exact ⟨v, rfl, hr⟩
    | succ i => simpa using ih (by simpa using e)
theorem RepQ.isSome {o : Option V} {d : Option D} (h : RepQ K G o d) : o.isSome = d.isSome := by
  cases o <;> cases d <;> first | rfl | exact (show False from h).elim
theorem RepQ.some_ {o : Option V} {d : D} (h : RepQ K G o (some d)) : ∃ v, o = some v ∧ Rep K G v d := by
  cases o with
  | none => exact (show False from h).elim
  | some v => exact ⟨v, rfl, h⟩
theorem RepQ.getD {o : Option V} {d : Option D} {v : V} {e : D} (h : RepQ K G o d) (r : Rep K G v e) : Rep K G (o.getD v) (d.getD e) := by
  cases o <;> cases d <;> first | exact r | exact h | exact (show False from h).elim
end
def kD : Key → D
  | .inl i => .int i
  | .inr x => .str x
def kOf : D → Option Key
  | .int i => some (.inl i)
  | .str x => some (.inr x)
  | _ => none
def ksOf : List D → Option (List Key)
  | [] => some []
  | d :: r => match kOf d, ksOf r with
    | some k, some ks => some (k :: ks)
    | _, _ => none
section
variable {K : PySem.W.Frag} {G : Hp}
theorem kOf_rep {v : V} {d : D} {k : Key} (h : kOf d = some k) (r : Rep K G v d) : v = kV k := by
  cases d <;> simp [kOf] at h
  · subst h; cases r; rfl
  · subst h; cases r; rfl
theorem kD_rep (k : Key) : Rep K G (kV k) (kD k) := by
  cases k with
  | inl i => exact .int i
  | inr x => exact .str x
theorem ksD_rep : ∀ (ks : List Key), RepL K G (ks.map kV) (ks.map kD)
  | [] => .nil
  | k :: r => .cons (kD_rep k) (ksD_rep r)
theorem ksOf_inv {d : D} {r : List D} {ks : List Key} (h : ksOf (d :: r) = some ks) : ∃ k q, kOf d = some k ∧ ksOf r = some q ∧ ks = k :: q := by
  simp only [ksOf] at h
  split at h
  · rename_i k q e1 e2
    cases h
    exact ⟨k, q, e1, e2, rfl⟩
  · cases h
theorem ksOf_rep : ∀ {vs : List V} {ds : List D} {ks : List Key}, ksOf ds = some ks → RepL K G vs ds → vs = ks.map kV
  | _, [], ks, h, .nil => by cases h; rfl
  | _, d :: ds, ks, h, .cons r rs => by
    obtain ⟨k, q, e1, e2, rfl⟩ := ksOf_inv h
    rw [List.map_cons, kOf_rep e1 r, ksOf_rep e2 rs]
end
abbrev DD := List (Key × D) ⊕ List (List Key × D)
def ddAt (x : D) (cs : Cs) : Option DD := match x with
  | .dic kvs => some (.inl kvs)
  | .dct kvs => some (.inr kvs)
  | .opq (.ref p) => (match look p cs with
    | some (.dic kvs) => some (.inl kvs)
    | some (.dct kvs) => some (.inr kvs)
    | _ => none)
  | _ => none
def getV (x y : D) (cs : Cs) : Option (Option D) := match ddAt x cs with
  | some (.inl kvs) => (kOf y).map fun k => lk kvs k
  | some (.inr kvs) => (match y with
    | .tup ds => (ksOf ds).map fun ks => lk kvs ks
    | _ => none)
  | none => none
/-- what the dict at a holds at the key y -/
def LookX (K : PySem.W.Frag) (H : Hp) (a : Addr) (y : V) (r : Option V) : Prop :=
  (∃ kvs k, Rd H a (.dK kvs) ∧ y = kV k ∧ r = valV kvs k) ∨ ∃ kvs ks b, Rd H a (.dT kvs) ∧ y = .ref b ∧ SqT K H b (ks.map kV) ∧ r = valV kvs ks
section
variable {K : PySem.W.Frag} {F H : Hp} {cs : Cs}
theorem dd_k {x : V} {dx : D} {kvs : List (Key × D)} (s : Sta K F (pur F cs H) cs H) (r : Rep K (pur F cs H) x dx) (h : ddAt dx cs = some (.inl kvs)) : ∃ a xs, x = .ref a ∧ Rd H a (.dK xs) ∧ RG K (pur F cs H) xs kvs := by
  unfold ddAt at h
  split at h
  · cases h
    cases r with
    | dic e q => exact ⟨_, _, rfl, .inr ⟨_, pur_le _ _ e⟩, q.rg⟩
  · cases h
  · rename_i p
    split at h
    · rename_i kvs' e
      cases h
      cases r
      obtain ⟨o, e1, q⟩ := s.look e
      cases o <;> first | exact ⟨p, _, rfl, .inl e1, RepK.rg q⟩ | exact q.elim
    · cases h
    · cases h
  · cases h
theorem dd_t {x : V} {dx : D} {kvs : List (List Key × D)} (s : Sta K F (pur F cs H) cs H) (r : Rep K (pur F cs H) x dx) (h : ddAt dx cs = some (.inr kvs)) : ∃ a xs, x = .ref a ∧ Rd H a (.dT xs) ∧ RG K (pur F cs H) xs kvs := by
  unfold ddAt at h
  split at h
  · cases h
  · cases h
    cases r with
    | dct e q => exact ⟨_, _, rfl, .inr ⟨_, pur_le _ _ e⟩, q.rg⟩
  · rename_i p
    split at h
    · cases h
    · rename_i kvs' e
      cases h
      cases r
      obtain ⟨o, e1, q⟩ := s.look e
      cases o <;> first | exact ⟨p, _, rfl, .inl e1, RepT.rg q⟩ | exact q.elim
    · cases h
  · cases h
theorem getV_ok {x y : V} {dx dy : D} {o : Option D} (s : Sta K F (pur F cs H) cs H) (rx : Rep K (pur F cs H) x dx) (ry : Rep K (pur F cs H) y dy) (h : getV dx dy cs = some o) :
    ∃ a r, x = .ref a ∧ LookX K H a y r ∧ RepQ K (pur F cs H) r o := by
  unfold getV at h
  split at h
  · rename_i kvs e
    obtain ⟨a, xs, rfl, h1, h2⟩ := dd_k s rx e
    obtain ⟨k, hk, rfl⟩ := Option.map_eq_some_iff.mp h
    exact ⟨a, _, rfl, .inl ⟨xs, k, h1, kOf_rep hk ry, rfl⟩, h2.val k⟩
  · rename_i kvs e
    obtain ⟨a, xs, rfl, h1, h2⟩ := dd_t s rx e
    split at h
    · rename_i ds
      obtain ⟨ks, hk, rfl⟩ := Option.map_eq_some_iff.mp h
      cases ry with
      | tup q r =>
        refine ⟨a, _, rfl, .inr ⟨xs, ks, _, h1, rfl, ?_, rfl⟩, h2.val ks⟩
        rw [← ksOf_rep hk r]
        exact ex_t pur_le q
    · cases h
  · cases h
end
section
variable {X : Cx} {pins : List (Addr × Obj)} {σ : L2.St} {H : Hp} {s : Shared} {a b : Addr} {y v z : V} {u r : Value} {o : Option V} {A : Around} {E : Value → Shared → Prop}
theorem tup_key (I : Inv X pins σ H s) {ks : List Key} (h : SqT X.K H b (ks.map kV)) : (tupleKind (mixKind X.prog X.w)).is s.heap ks b := by
  obtain ⟨its, rv, ⟨ob, h1, h2, n, h3⟩, _⟩ := I.tuple h
  exact ⟨ob, its.toArray, n, h1, h2, h3, by simpa using items_are rv⟩
theorem lookX_isD (g : LookX X.K H a y o) : IsD H a := by
  rcases g with ⟨kvs, k, e, _⟩ | ⟨kvs, k, b, e, _⟩
  · exact .inl ⟨kvs, e⟩
  · exact .inr ⟨kvs, e⟩
theorem x_getItem {Q : Value → Shared → Prop} (hu : A.units + 1 < cLine) (I : Inv X pins σ H s) (g : LookX X.K H a y (some v)) (ry : RelV y u) (h : ∀ w' s', Inv X pins σ H s' → RelV v w' → Q w' s') :
    wpAny (model X.prog X.w) A (getItem (.ref a) u) Q E s := by
  rcases g with g | ⟨kvs, k, b, e, rfl, eb, l⟩
  · exact d_getItem hu I (.inl g) ry h
  · cases (show u = Value.ref b from ry)
    obtain ⟨_, hd, xs, rel, dd⟩ := dt_rd I.hok e
    obtain ⟨w1, hw, r1⟩ := RelO.some_of (v := v) (o := (atKey xs k).map (·.2)) (by rw [l]; exact rel.val k)
    obtain ⟨p, hp, rfl⟩ := Option.map_eq_some_iff.mp hw
    exact wpAny_getItem_heap (tupleKind_room_in1 hu) (tup_key I eb) dd hp (h _ _ (I.tok _) r1)
theorem x_notIn {Q : Value → Shared → Prop} (hu : A.units + 1 < cLine) (I : Inv X pins σ H s) (g : LookX X.K H a y o) (ry : RelV y u) (h : ∀ s', Inv X pins σ H s' → Q (.bool (!o.isSome)) s') :
    wpAny (model X.prog X.w) A (compareOp .NotIn u (.ref a)) Q E s := by
  rcases g with g | ⟨kvs, k, b, e, rfl, eb, l⟩
  · exact d_notIn hu I (.inl g) ry h
  · cases (show u = Value.ref b from ry)
    obtain ⟨_, hd, xs, rel, dd⟩ := dt_rd I.hok e
    have q := (rel.val k).isSome_eq
    rw [Option.isSome_map, ← l] at q
    refine wpAny_notIn_heap (tupleKind_room_in1 hu) (tup_key I eb) hd dd ?_
    rw [← q]
    exact h _ (I.tok _)
theorem x_get2 {Q : Value → Shared → Prop} (hu : A.units + 1 < cLine) (I : Inv X pins σ H s) (g : LookX X.K H a y o) (ry : RelV y u) (rz : RelV z r) (h : ∀ w' s', Inv X pins σ H s' → RelV (o.getD z) w' → Q w' s') :
    wpAny (model X.prog X.w) A (call (.builtin "dict.get") [.ref a, u, r]) Q E s := by
  rcases g with g | ⟨kvs, k, b, e, rfl, eb, l⟩
  · exact d_get2 hu I (.inl g) ry rz h
  · cases (show u = Value.ref b from ry)
    obtain ⟨_, hd, xs, rel, dd⟩ := dt_rd I.hok e
    refine call_meetsIn PySem.F.slot_dict_get dd.typeIs PySem.F.entry_dict_get (PySem.F.args_dict_get_3 _ _ _) (meetsH_dict_get_default (tupleKind (mixKind X.prog X.w)) a b hd r) ⟨tupleKind_room_in1 hu, k, xs, tup_key I eb, dd, ?_⟩
    refine h _ _ (I.tok _) ?_
    rw [l]; exact (rel.val k).getD rz
end
def rDGet (K : PySem.W.Frag) : R2 := fun x y H Q => ∃ a v, x = .ref a ∧ LookX K H a y (some v) ∧ Q v H
def rDNotIn (K : PySem.W.Frag) : R2 := fun y x H Q => ∃ a o, x = .ref a ∧ LookX K H a y o ∧ Q (.bl (!o.isSome)) H
def oGetD : DO2 := fun x y cs P => ∃ d, getV x y cs = some (some d) ∧ P d cs
def oInD : DO2 := fun y x cs P => ∃ o, getV x y cs = some o ∧ P (.bl o.isSome) cs
def oNotInD : DO2 := fun y x cs P => ∃ o, getV x y cs = some o ∧ P (.bl (!o.isSome)) cs
section
variable {X : Cx} {W : WX} {K : PySem.W.Frag} {σ : L2.St} {H : Hp} {a b c e : Expr} {wa wb wc we : DL.WE} {pos : Pos}
theorem adq_getD : Adq K (rDGet K) oGetD := fun F cs H x y dx dy P Q s rx ry ho pe => by
  obtain ⟨d, h1, h2⟩ := ho
  obtain ⟨p, r, rfl, h3, h4⟩ := getV_ok s rx ry h1
  obtain ⟨v, rfl, h5⟩ := h4.some_
  exact ⟨p, v, rfl, h3, pe H cs _ _ s h5 h2⟩
theorem adq_notInD : Adq K (rDNotIn K) oNotInD := fun F cs H x y dx dy P Q s rx ry ho pe => by
  obtain ⟨d, h1, h2⟩ := ho
  obtain ⟨p, r, rfl, h3, h4⟩ := getV_ok s ry rx h1
  exact ⟨p, r, rfl, h3, pe H cs _ _ s (by rw [h4.isSome]; exact .bl _) h2⟩
theorem pe_getX {ta tb : TE} (hu : X.A.units + 64 < cLine) (ho : PE X a ta) (hi : PE X b tb) (hs : NoSl b) : PE X (.Subscript a b pos) (tOp (rDGet X.K) ta tb) := by
  refine ⟨fun pins s σ H Q I h => ?_⟩
  refine subD_of PySem.F.slot_dict_getitem.lookup hs (thn (ho.run pins s σ H _ I h) fun u s1 ⟨x, H1, I1, rx, q1⟩ => thn (hi.run pins s1 σ H1 _ I1 q1) fun iv s2 ⟨y, H2, I2, ry, p, v, ex, g, q2⟩ => ?_)
  subst ex
  obtain rfl : u = Value.ref p := rx
  exact ⟨(isD_at I2 (lookX_isD g)).1, x_getItem (by omega) I2 g ry fun w' s3 I3 rw' => ⟨v, H2, I3, rw', q2⟩⟩
theorem op_notInX (hu : X.A.units + 64 < cLine) : OpR X (compareOp .NotIn) (rDNotIn X.K) := by
  intro pins s σ H x y v u Q I rx ry h
  obtain ⟨p, o, rfl, g, q⟩ := h
  obtain rfl : u = Value.ref p := ry
  exact x_notIn (by omega) I g rx fun s3 I3 => ⟨.bl (!o.isSome), H, I3, rfl, q⟩
theorem d_getD (hu : X.A.units + 64 < cLine) (ha : DE X W a wa) (hb : DE X W b wb) (hs : NoSl b := by intro _ _; rfl) : DE X W (.Subscript a b pos) (wOp oGetD wa wb) := PE.imp (pe_getX hu ha hb hs) fun _ _ _ h => bin_ok adq_getD h
theorem dt_notinD (hu : X.A.units + 64 < cLine) (ha : DE X W a wa) (hb : DE X W b wb) (hm : behindInMarks .NotIn b = false := by rfl) : DT X W (.Compare a [.NotIn] [b] pos) (wTest (wOp oNotInD wa wb)) := dt_cmp (op_notInX hu) adq_notInD ha hb hm
def wNewK : DL.WE := fun _ cs P _ => ∀ p, p ∉ adr cs → P (.opq (.ref p)) ((p, .dic []) :: cs)
def wNewT : DL.WE := fun _ cs P _ => ∀ p, p ∉ adr cs → P (.opq (.ref p)) ((p, .dct []) :: cs)
/-- {k: v}, the key an int or a text -/
def wOneK (wk wv : DL.WE) : DL.WE := fun ρ cs P Z => ∀ p, p ∉ adr cs → wk ρ ((p, .dic []) :: cs) (fun k cs1 => wv ρ cs1 (fun v cs2 => ∃ kk, kOf k = some kk ∧ look p cs2 = some (.dic []) ∧ P (.opq (.ref p)) (put p (.dic [(kk, v)]) cs2)) Z) Z
theorem pur_at_no {F H' : Hp} {cs : Cs} {p : Addr} (h : p ∈ adr cs) : pur F cs H' p = none := by
  unfold pur; exact if_pos (.inr h)
theorem dic_at {F G0 : Hp} {cs : Cs} {p : Addr} {ds : List (Key × D)} (s : Sta K F G0 cs H) (h : look p cs = some (.dic ds)) : ∃ vs, H p = some (.dK vs) ∧ RG K (pur F cs H) vs ds := by
  obtain ⟨o, e, q⟩ := s.look h
  cases o <;> first | exact ⟨_, e, RepK.rg q⟩ | exact q.elim
theorem dct_at {F G0 : Hp} {cs : Cs} {p : Addr} {ds : List (List Key × D)} (s : Sta K F G0 cs H) (h : look p cs = some (.dct ds)) : ∃ vs, H p = some (.dT vs) ∧ RG K (pur F cs H) vs ds := by
  obtain ⟨o, e, q⟩ := s.look h
  cases o <;> first | exact ⟨_, e, RepT.rg q⟩ | exact q.elim
theorem d_oneK {k v : Expr} {wk wv : DL.WE} (hk : DE X W k wk) (hv : DE X W v wv) : DE X W (.Dict [some k] [v] pos) (wOneK wk wv) :=
  PE.imp (pe_disp (pps_cons hk hv pps_nil) rfl rfl (fun z => by cases z) (Nat.le_of_lt_succ (by show 1 < 16; decide))) fun σ H Q h p hp => by
    obtain ⟨F, cs, ρ, P, Z, s, re, hw, pe, px⟩ := h
    have s1 := s.newM (m := .dic []) (o := .dK []) hp RepK.nil
    refine ⟨F, _, ρ, _, Z, s1.self, re.mono s1.gr, hw p (s.notin hp).2, fun H2 cs2 x dx s2 r2 h2 => ?_, px.le s1.gr⟩
    refine ⟨F, cs2, ρ, _, Z, s2.self, re.mono (s1.gr.trans s2.gr), h2, fun H3 cs3 y dy s3 r3 h3 => ?_, px.le (s1.gr.trans s2.gr)⟩
    obtain ⟨kk, e1, e2, h4⟩ := h3
    obtain ⟨vs, e3, e4⟩ := dic_at s3 e2
    cases e4
    have s4 := s3.put e2 (m' := .dic [(kk, dy)]) (o' := .dK [(kk, y)]) (RepK.cons r3 .nil)
    refine ⟨e3, [(kk, y)], by rw [kOf_rep e1 r2]; rfl, (by show 1 ≤ 15; decide), ?_⟩
    exact pe _ _ _ _ (s4.from_ ((s1.gr.trans s2.gr).trans s3.gr)) (.opq _) h4
theorem pe_keepLock {t : TE} (h : PE X e t) : PE X e (fun σ H Q => t σ H fun v H' => ∃ d u, v = .ref d ∧ H' d = some u ∧ Mut (some u) ∧ ∀ od, Q v (upd H' d (.frz od u))) := by
  refine ⟨fun pins s σ H Q I hw => ?_⟩
  refine thn (h.run pins s σ _ _ I hw) fun v s1 ⟨x, H1, I1, r, d, u, ex, hd, mu, q⟩ => ?_
  obtain ⟨od, I2⟩ := I1.lock hd mu
  exact ⟨x, _, I2, r, q od⟩
theorem Sta.lockD {F G0 : Hp} {cs : Cs} {p : Addr} {m : MO} {u : HO} (s : Sta K F G0 cs H) (hl : DL.look p cs = some m) (hu : H p = some u) (od : Obj) :
    Sta K F G0 (del p cs) (upd H p (.frz od u)) ∧ Ex (pur F cs H) (pur F (del p cs) (upd H p (.frz od u))) ∧ pur F (del p cs) (upd H p (.frz od u)) p = some (.frz od u) := by
  obtain ⟨n1, n2⟩ := nd_del (p := p) s.nd
  have hp : p ∈ adr cs := List.mem_map.mpr ⟨(p, m), look_mem hl, rfl⟩
  have hF : F p = none := s.ap p hp
  have g : Ex (pur F cs H) (pur F (del p cs) (upd H p (.frz od u))) := fun b w e => by
    obtain ⟨e1, e2, e3⟩ := pur_of e
    have hb : b ≠ p := fun z => e3 (by rw [z]; exact hp)
    rw [pur_at e2 fun z => e3 (adr_del z), upd_ne hb]; exact e1
  refine ⟨⟨fun b w e => ?_, s.gr.trans g, n1, fun a h => s.ap a (adr_del h), fun a m' h => ?_, s.ft⟩, g, by rw [pur_at hF n2, upd_same]⟩
  · rw [upd_ne fun z => by rw [z, hF] at e; cases e]; exact s.fr b w e
  · obtain ⟨w, hw, r⟩ := s.ow a m' (mem_del h)
    refine ⟨w, ?_, r.mono g⟩
    have ha : a ∈ adr (del p cs) := List.mem_map.mpr ⟨(a, m'), h, rfl⟩
    have hap : a ≠ p := fun z => n2 (by rw [z] at ha; exact ha)
    rw [upd_ne hap]; exact hw
/-- a changing dict becomes data -/
def wLockD (we : DL.WE) : DL.WE := fun ρ cs P Z => we ρ cs (fun d cs1 => ∃ p, d = .opq (.ref p) ∧ ((∃ kvs, look p cs1 = some (.dic kvs) ∧ P (.dic kvs) (del p cs1)) ∨ ∃ kvs, look p cs1 = some (.dct kvs) ∧ P (.dct kvs) (del p cs1))) Z
theorem d_lockD (h : DE X W e we) : DE X W e (wLockD we) := PE.imp (pe_keepLock h) fun σ H Q hq => by
  obtain ⟨F, cs, ρ, P, Z, s, re, hw, pe, px⟩ := hq
  refine ⟨F, cs, ρ, _, Z, s, re, hw, fun H1 cs1 v d s1 r1 h1 => ?_, px⟩
  obtain ⟨p, rfl, ⟨kvs, hl, h2⟩ | ⟨kvs, hl, h2⟩⟩ := h1
  · cases r1
    obtain ⟨vs, e1, q1⟩ := dic_at s1 hl
    refine ⟨p, _, rfl, e1, True.intro, fun od => ?_⟩
    obtain ⟨s2, g2, e2⟩ := s1.lockD hl e1 od
    exact pe _ _ _ _ s2 (.dic e2 (q1.mono g2).rk) h2
  · cases r1
    obtain ⟨vs, e1, q1⟩ := dct_at s1 hl
    refine ⟨p, _, rfl, e1, True.intro, fun od => ?_⟩
    obtain ⟨s2, g2, e2⟩ := s1.lockD hl e1 od
    exact pe _ _ _ _ s2 (.dct e2 (q1.mono g2).rt) h2
def oSetDK : DSet := fun o i v cs Q => match o with
  | .opq (.ref p) => (match look p cs with
    | some (.dic ds) => ∃ k, kOf i = some k ∧ ds.length < 100000 ∧ Q (put p (.dic (putD ds k v)) cs)
    | _ => False)
  | _ => False
theorem setDK_inv {o i v : D} {cs : Cs} {Q : Cs → Prop} (h : oSetDK o i v cs Q) : ∃ p ds k, o = .opq (.ref p) ∧ look p cs = some (.dic ds) ∧ kOf i = some k ∧ ds.length < 100000 ∧ Q (put p (.dic (putD ds k v)) cs) := by
  unfold oSetDK at h
  split at h
  · split at h
    · rename_i e
      obtain ⟨k, h1, h2, h3⟩ := h
      exact ⟨_, _, k, rfl, e, h1, h2, h3⟩
    · exact h.elim
  · exact h.elim
def rSetD : V → V → V → Hp → (Hp → Prop) → Prop := fun o i v H Q => ∃ p H', o = .ref p ∧ DPut H p i v H' ∧ Q H'
theorem set_dict (hu : X.A.units + 64 < cLine) : PSet X rSetD := by
  intro pins s σ H o i v ov iv u Q I ro ri rv h
  obtain ⟨p, H', rfl, g, q⟩ := h
  cases ro
  exact d_setItem (by omega) I g ri rv fun s4 I4 => ⟨H', I4, q⟩
theorem ds_setDK {o i v : Expr} {wo wi wv : DL.WE} {p1 : Pos} (hu : X.A.units + 64 < cLine) (hv : DE X W v wv) (ho : DE X W o wo) (hi : DE X W i wi)
    (ha : ∀ u, assign (.Subscript o i p1) X.env u = (do
      let ov ← holding [u] (eval o X.env)
      let iv ← holding [u, ov] (eval i X.env)
      standAt p1
      holding [u, ov, iv] (setItem ov iv u)
      release [u, ov, iv] []) := by intro _; rfl)
    (hs : swapsWithSole [.Subscript o i p1] v pos.line X.env = pure false := by rfl) (hw : swappedStores [.Subscript o i p1] v X.env = pure none := by rfl) (h1 : (assignEach [.Subscript o i p1] X.env).map (·.2) = [assign (.Subscript o i p1) X.env] := by rfl) :
    DS X W (.Assign [.Subscript o i p1] v pos) (sSetIx wv wo wi oSetDK) := PS.imp (ps_asg hv (pg_sub ho hi (set_dict hu) ha) hs hw h1) fun E σ H h => by
  obtain ⟨F, cs, ρ, f, s, re, hw, pe⟩ := h
  refine ⟨F, cs, ρ, _, _, s, re, hw, fun H1 cs1 y dy s1 r1 h1 => ?_, pe.px re⟩
  refine ⟨F, cs1, ρ, _, _, s1.self, re.mono s1.gr, h1, fun H2 cs2 x dx s2 r2 h2 => ?_, (pe.le s1.gr).px (re.mono s1.gr)⟩
  refine ⟨F, cs2, ρ, _, _, s2.self, re.mono (s1.gr.trans s2.gr), h2, fun H3 cs3 z dz s3 r3 h3 => ?_, (pe.le (s1.gr.trans s2.gr)).px (re.mono (s1.gr.trans s2.gr))⟩
  obtain ⟨p, ds, k, rfl, hl, hk, hz, h⟩ := setDK_inv h3
  obtain ⟨vs, e, rl⟩ := dic_at s3 hl
  cases r2
  have s4 := s3.put hl (m' := .dic (putD ds k dy)) (o' := .dK (putK vs k y)) (rl.put k (r1.mono (s2.gr.trans s3.gr))).rk
  refine ⟨p, _, rfl, .inl ⟨vs, k, e, kOf_rep hk r3, ?_, rfl⟩, ?_⟩
  · rw [rl.length]; exact Nat.lt_of_lt_of_le hz (by decide)
  have g := (s1.gr.trans s2.gr).trans s3.gr
  exact pe.nx _ _ σ ρ (s4.from_ g) (re.mono (g.trans s4.gr)) h
/-- d[(a, ..)] = v -/
def oSetDT (p : D) (ds : List D) (v : D) (cs : Cs) (Q : Cs → Prop) : Prop := match p with
  | .opq (.ref p) => (match look p cs with
    | some (.dct xs) => ∃ ks, ksOf ds = some ks ∧ xs.length < 100000 ∧ Q (put p (.dct (putD xs ks v)) cs)
    | _ => False)
  | _ => False
def sSetT (wv wo : DL.WE) (w : WA) : WS := fun f ρ cs => wv ρ cs (fun v cs1 => wo ρ cs1 (fun x cs2 => w ρ cs2 (fun ds cs3 => oSetDT x ds v cs3 fun cs4 => f.nx ρ cs4) (fun x cs1 => f.ex x ρ cs1)) (fun x cs1 => f.ex x ρ cs1)) (fun x cs1 => f.ex x ρ cs1)
end
section
variable {ρ : DL.Env} {cs : Cs} {P : DP} {Z : XZ} {we wv wo wi wk : DL.WE} {w : WA} {d : D} {p : Addr} {i j : Int} {x : Str} {kvs : List (Key × D)} {kts : List (List Key × D)} {R : Cs → Prop}
theorem r_getKI (h1 : lk kvs (.inl i) = some d) (h : P d cs) : oGetD (.dic kvs) (.int i) cs P := ⟨d, by simp [getV, ddAt, kOf, h1], h⟩
theorem r_getKS (h1 : lk kvs (.inr x) = some d) (h : P d cs) : oGetD (.dic kvs) (.str x) cs P := ⟨d, by simp [getV, ddAt, kOf, h1], h⟩
theorem r_getT2 (h1 : lk kts [.inl i, .inl j] = some d) (h : P d cs) : oGetD (.dct kts) (.tup [.int i, .int j]) cs P := ⟨d, by simp [getV, ddAt, kOf, ksOf, h1], h⟩
theorem r_getMI (hl : look p cs = some (.dic kvs)) (h1 : lk kvs (.inl i) = some d) (h : P d cs) : oGetD (.opq (.ref p)) (.int i) cs P := ⟨d, by simp [getV, ddAt, hl, kOf, h1], h⟩
theorem r_getMS (hl : look p cs = some (.dic kvs)) (h1 : lk kvs (.inr x) = some d) (h : P d cs) : oGetD (.opq (.ref p)) (.str x) cs P := ⟨d, by simp [getV, ddAt, hl, kOf, h1], h⟩
theorem r_getMT2 (hl : look p cs = some (.dct kts)) (h1 : lk kts [.inl i, .inl j] = some d) (h : P d cs) : oGetD (.opq (.ref p)) (.tup [.int i, .int j]) cs P := ⟨d, by simp [getV, ddAt, hl, kOf, ksOf, h1], h⟩
theorem r_inKI (h : P (.bl (lk kvs (.inl i)).isSome) cs) : oInD (.int i) (.dic kvs) cs P := ⟨_, by simp [getV, ddAt, kOf], h⟩
theorem r_inKS (h : P (.bl (lk kvs (.inr x)).isSome) cs) : oInD (.str x) (.dic kvs) cs P := ⟨_, by simp [getV, ddAt, kOf], h⟩
theorem r_inT2 (h : P (.bl (lk kts [.inl i, .inl j]).isSome) cs) : oInD (.tup [.int i, .int j]) (.dct kts) cs P := ⟨_, by simp [getV, ddAt, kOf, ksOf], h⟩
theorem r_inMI (hl : look p cs = some (.dic kvs)) (h : P (.bl (lk kvs (.inl i)).isSome) cs) : oInD (.int i) (.opq (.ref p)) cs P := ⟨_, by simp [getV, ddAt, hl, kOf], h⟩
theorem r_inMS (hl : look p cs = some (.dic kvs)) (h : P (.bl (lk kvs (.inr x)).isSome) cs) : oInD (.str x) (.opq (.ref p)) cs P := ⟨_, by simp [getV, ddAt, hl, kOf], h⟩
theorem r_notKI (h : P (.bl (!(lk kvs (.inl i)).isSome)) cs) : oNotInD (.int i) (.dic kvs) cs P := ⟨_, by simp [getV, ddAt, kOf], h⟩
theorem r_notKS (h : P (.bl (!(lk kvs (.inr x)).isSome)) cs) : oNotInD (.str x) (.dic kvs) cs P := ⟨_, by simp [getV, ddAt, kOf], h⟩
theorem r_notMI (hl : look p cs = some (.dic kvs)) (h : P (.bl (!(lk kvs (.inl i)).isSome)) cs) : oNotInD (.int i) (.opq (.ref p)) cs P := ⟨_, by simp [getV, ddAt, hl, kOf], h⟩
theorem r_notMS (hl : look p cs = some (.dic kvs)) (h : P (.bl (!(lk kvs (.inr x)).isSome)) cs) : oNotInD (.str x) (.opq (.ref p)) cs P := ⟨_, by simp [getV, ddAt, hl, kOf], h⟩
theorem r_newK (h : ∀ p, p ∉ adr cs → P (.opq (.ref p)) ((p, .dic []) :: cs)) : wNewK ρ cs P Z := h
theorem r_newT (h : ∀ p, p ∉ adr cs → P (.opq (.ref p)) ((p, .dct []) :: cs)) : wNewT ρ cs P Z := h
theorem r_oneK (h : ∀ p, p ∉ adr cs → wk ρ ((p, .dic []) :: cs) (fun k cs1 => wv ρ cs1 (fun v cs2 => ∃ kk, kOf k = some kk ∧ look p cs2 = some (.dic []) ∧ P (.opq (.ref p)) (put p (.dic [(kk, v)]) cs2)) Z) Z) : wOneK wk wv ρ cs P Z := h
theorem r_lockD (h : we ρ cs (fun d cs1 => ∃ p, d = .opq (.ref p) ∧ ((∃ kvs, look p cs1 = some (.dic kvs) ∧ P (.dic kvs) (del p cs1)) ∨ ∃ kvs, look p cs1 = some (.dct kvs) ∧ P (.dct kvs) (del p cs1))) Z) : wLockD we ρ cs P Z := h
theorem r_setKI (hz : kvs.length < 100000) (h : R ((p, .dic (putD kvs (.inl i) d)) :: cs)) : oSetDK (.opq (.ref p)) (.int i) d ((p, .dic kvs) :: cs) R := by
  unfold oSetDK; simp only [look, if_true]; exact ⟨.inl i, rfl, hz, by rw [put_hd]; exact h⟩
theorem r_setKS (hz : kvs.length < 100000) (h : R ((p, .dic (putD kvs (.inr x) d)) :: cs)) : oSetDK (.opq (.ref p)) (.str x) d ((p, .dic kvs) :: cs) R := by
  unfold oSetDK; simp only [look, if_true]; exact ⟨.inr x, rfl, hz, by rw [put_hd]; exact h⟩
theorem r_setT2 (hz : kts.length < 100000) (h : R ((p, .dct (putD kts [.inl i, .inl j] d)) :: cs)) : oSetDT (.opq (.ref p)) [.int i, .int j] d ((p, .dct kts) :: cs) R := by
  unfold oSetDT; simp only [look, if_true]; exact ⟨[.inl i, .inl j], rfl, hz, by rw [put_hd]; exact h⟩
section
variable {nx bk ct : DL.Env → Cs → Prop} {rt : D → Cs → Prop} {ex : Exn → DL.Env → Cs → Prop}
theorem q_setDK (h : wv ρ cs (fun v cs1 => wo ρ cs1 (fun x cs2 => wi ρ cs2 (fun i cs3 => oSetDK x i v cs3 fun cs4 => nx ρ cs4) (fun x cs1 => ex x ρ cs1)) (fun x cs1 => ex x ρ cs1)) (fun x cs1 => ex x ρ cs1)) : sSetIx wv wo wi oSetDK ⟨nx, rt, ex, bk, ct⟩ ρ cs := h
theorem q_setDT (h : wv ρ cs (fun v cs1 => wo ρ cs1 (fun x cs2 => w ρ cs2 (fun ds cs3 => oSetDT x ds v cs3 fun cs4 => nx ρ cs4) (fun x cs1 => ex x ρ cs1)) (fun x cs1 => ex x ρ cs1)) (fun x cs1 => ex x ρ cs1)) : sSetT wv wo w ⟨nx, rt, ex, bk, ct⟩ ρ cs := h
end
end
section
variable {ρ : DL.Env} {cs : Cs} {Z : XZ} {wa wb : DL.WE}
theorem r_rg2 {R : List D → Cs → Prop} (h : wa ρ cs (fun x cs1 => wb ρ cs1 (fun y cs2 => match x, y with | .int i, .int j => (-(2 ^ 62) ≤ i ∧ i < 2 ^ 62 ∧ -(2 ^ 62) ≤ j ∧ j < 2 ^ 62) ∧ R (rngD i (j - i).toNat) cs2 | _, _ => False) Z) Z) : iRg2 (wCons wa (wCons wb wNil)) ρ cs R Z := by
  unfold iRg2 wCons wNil
  have e : (fun (x : D) (cs1 : Cs) => wb ρ cs1 (fun (y : D) (cs2 : Cs) => (match [x, y] with | [D.int i, D.int j] => (-(2 ^ 62) ≤ i ∧ i < 2 ^ 62 ∧ -(2 ^ 62) ≤ j ∧ j < 2 ^ 62) ∧ R (rngD i (j - i).toNat) cs2 | _ => False)) Z)
      = fun (x : D) (cs1 : Cs) => wb ρ cs1 (fun y cs2 => match x, y with | .int i, .int j => (-(2 ^ 62) ≤ i ∧ i < 2 ^ 62 ∧ -(2 ^ 62) ≤ j ∧ j < 2 ^ 62) ∧ R (rngD i (j - i).toNat) cs2 | _, _ => False) Z := by
    funext x cs1
    congr 1
    funext y cs2
    cases x <;> cases y <;> rfl
  rw [← e] at h
  exact h
end
end DL
namespace DL
open PySem PySem.Spec PyProof.Rows L2
section
variable {X : Cx} {W : WX} {K : PySem.W.Frag} {σ : L2.St} {H : Hp} {e : Expr} {we : DL.WE} {pos : Pos}
/-- a tuple that is tracked is data -/
theorem tup_pur {F : Hp} {cs : Cs} {q : Addr} {ys : List V} {G0 : Hp} (s : Sta K F G0 cs H) (h : H q = some (.tup ys)) : pur F cs H q = some (.tup ys) := by
  have hF : F q = none := by
    cases e : F q with
    | none => rfl
    | some o =>
      have := s.fr q o e
      rw [h] at this
      cases this
      exact absurd e (s.ft q ys)
  rw [pur_at hF fun z => ?_]
  · exact h
  · obtain ⟨⟨a, m⟩, hm, ea⟩ := List.mem_map.mp z
    obtain ⟨u, hu, r⟩ := s.ow a m hm
    have ea' : a = q := ea
    rw [ea', h] at hu
    cases hu
    cases m <;> exact r
theorem yi_keysK {G : Hp} {a : Addr} {o : Obj} {xs : List (Key × V)} (h : G a = some (.frz o (.dK xs))) : YI K (Itk a o xs) G (xs.map fun p => kD p.1) where
  go := fun i d e F cs H s => by
    have z := (List.getElem?_eq_some_iff.mp e).1
    rw [List.length_map] at z
    exact ⟨pur_le _ _ (s.gr _ _ h), z⟩
  yld := fun i d e F cs H x H' s hy => by
    obtain ⟨rfl, k, v, e1, rfl⟩ := hy
    rw [List.getElem?_map, e1] at e
    cases e
    exact ⟨s.self, kD_rep k⟩
  stop := fun F cs H s => ⟨pur_le _ _ (s.gr _ _ h), by rw [List.length_map]; exact Nat.le_refl _⟩
theorem yi_keysT {G : Hp} {a : Addr} {o : Obj} {xs : List (List Key × V)} (h : G a = some (.frz o (.dT xs))) : YI K (Itkt a o xs) G (xs.map fun p => D.tup (p.1.map kD)) where
  go := fun i d e F cs H s => by
    have z := (List.getElem?_eq_some_iff.mp e).1
    rw [List.length_map] at z
    exact ⟨pur_le _ _ (s.gr _ _ h), z⟩
  yld := fun i d e F cs H x H' s hy => by
    obtain ⟨rfl, k, v, q, e1, rfl, e2⟩ := hy
    rw [List.getElem?_map, e1] at e
    cases e
    exact ⟨s.self, .tup (SqT.of (tup_pur s e2)) (ksD_rep k)⟩
  stop := fun F cs H s => ⟨pur_le _ _ (s.gr _ _ h), by rw [List.length_map]; exact Nat.le_refl _⟩
def iKeysD (we : DL.WE) : WI := fun ρ cs P Z => we ρ cs (fun d cs1 => match d with
  | .dic kvs => P (kvs.map fun p => kD p.1) cs1
  | .dct kvs => P (kvs.map fun p => D.tup (p.1.map kD)) cs1
  | _ => False) Z
theorem keys_eq {κ β : Type} {G : Hp} {xs : List (κ × V)} {ds : List (κ × D)} (f : κ → β) (h : RG K G xs ds) : (xs.map fun p => f p.1) = ds.map fun p => f p.1 := by
  induction h with
  | nil => rfl
  | cons _ _ ih => rw [List.map_cons, List.map_cons, ih]
theorem di_keys {tg : Expr} (h : DE X W e we) : DI X W tg e (iKeysD we) := PI.imp (pi_keys h) fun σ H R hq => by
  obtain ⟨F, cs, ρ, P, Z, s, re, hw, pe, px⟩ := hq
  refine ⟨F, cs, ρ, _, Z, s, re, hw, fun H1 cs1 v d s1 r1 h1 => ?_, px⟩
  cases d <;> try exact h1.elim
  · cases r1 with
    | dic e1 q =>
      refine ⟨_, _, rfl, .inl ⟨_, pur_le _ _ e1, pe H1 cs1 _ _ s1 (yi_keysK e1) ?_⟩⟩
      rw [keys_eq kD q.rg]; exact h1
  · cases r1 with
    | dct e1 q =>
      refine ⟨_, _, rfl, .inr ⟨_, pur_le _ _ e1, pe H1 cs1 _ _ s1 (yi_keysT e1) ?_⟩⟩
      rw [keys_eq (fun k => D.tup (k.map kD)) q.rg]; exact h1
def dcW (g : WG) (wt : WT) (wk wv : DL.WE) : List D → DL.Env → Cs → List (Key × D) → (List (Key × D) → Cs → Prop) → Prop
  | [], _, cs, acc, P => P acc cs
  | d :: r, ρ, cs, acc, P => g d ρ fun ρ1 => wt ρ1 cs (fun k cs1 => (k = true → wk ρ1 cs1 (fun y cs2 => wv ρ1 cs2 (fun z cs3 => ∃ kk, kOf y = some kk ∧ dcW g wt wk wv r ρ cs3 (putD acc kk z) P) Z0) Z0) ∧ (k = false → dcW g wt wk wv r ρ cs1 acc P)) Z0
def wDcR (wi : WI) (g : WG) (wt : WT) (wk wv : DL.WE) (vs : List Nat) (R : DP → List (Key × D) → Cs → Prop) : DL.WE := fun ρ cs P Z => wi ρ cs (fun xs cs1 => xs.length ≤ 100000 ∧ dcW g wt wk wv xs (wipeD ρ vs) cs1 [] (R P)) Z
abbrev RMK : DP → List (Key × D) → Cs → Prop := fun P ds cs2 => ∀ p, p ∉ adr cs2 → P (.opq (.ref p)) ((p, .dic ds) :: cs2)
/-- a thing that was put aside comes to be one that may change -/
theorem dcK_ok {wi : WI} {g : TG} {gd : WG} {wt : WT} {wk wv : DL.WE} {vs : List Nat} (gk : GOk K g gd vs) {Q : VK} : lE K W (wDcR wi gd wt wk wv vs RMK) σ H Q → tDc (lI K W wi) g (lT K W0 wt) (lE K W0 wk) (lE K W0 wv) vs σ H Q := by
  rintro ⟨F, cs, ρ, P, Z, s, re, hw, pe, px⟩
  refine ⟨F, cs, ρ, _, Z, s, re, hw, fun H1 cs1 J xs s1 yi h1 => ?_, px⟩
  intro D hD
  obtain ⟨hlen, h1⟩ := h1
  have hFD : F D = none := s1.fr.back hD
  have reW : RepE K (pur F cs1 H1) (L2.wipe σ vs) (wipeD ρ vs) := (re.mono s1.gr).wipe vs
  refine ⟨fun i m H' => i ≤ xs.length ∧ m = xs.length - i ∧ ∃ cs' acc vacc, Sta K (upd F D (.dK vacc)) (pur F cs1 H1) cs' H' ∧ RG K (pur (upd F D (.dK vacc)) cs' H') vacc acc ∧ acc.length ≤ i ∧ dcW gd wt wk wv (xs.drop i) (wipeD ρ vs) cs' acc (RMK P),
    ⟨xs.length, Nat.zero_le _, rfl, cs1, [], [], s1.aside hD, .nil, Nat.le_refl _, h1⟩, ?_⟩
  rintro i m H2 ⟨hi, rfl, cs2, acc, vacc, s2, ra, hla, h2⟩
  cases e : xs.drop i with
  | nil =>
    have hl : xs.length ≤ i := by
      have z := congrArg List.length e
      rw [List.length_drop] at z
      have z' : xs.length - i = 0 := z
      omega
    have hie : i = xs.length := by omega
    rw [e] at h2
    refine .inl ⟨by rw [hie]; exact yi.stop _ cs2 H2 s2, ?_⟩
    obtain ⟨s3, hn⟩ := (s2.from_ s1.gr).backM (m := .dic acc) hFD ra.rk
    exact pe H2 _ _ _ s3 (.opq _) (h2 D hn)
  | cons d r =>
    obtain ⟨e1, e2⟩ := drop_cons e
    have hlt : i < xs.length := (List.getElem?_eq_some_iff.mp e1).1
    rw [e] at h2
    refine .inr ⟨yi.go i d e1 _ cs2 H2 s2, fun H' => ∃ cs' acc vacc, Sta K (upd F D (.dK vacc)) (pur F cs1 H1) cs' H' ∧ RG K (pur (upd F D (.dK vacc)) cs' H') vacc acc ∧ acc.length ≤ i + 1 ∧ dcW gd wt wk wv r (wipeD ρ vs) cs' acc (RMK P), ?_, ?_⟩
    · rintro H' ⟨cs', acc', vacc', s', ra', hl', h'⟩
      exact ⟨xs.length - (i + 1), by omega, by omega, rfl, cs', acc', vacc', s', ra', hl', by rw [e2]; exact h'⟩
    · intro x H3 hy
      obtain ⟨s3, r3⟩ := yi.yld i d e1 _ cs2 H2 x H3 s2 hy
      refine gk _ cs2 H3 _ (wipeD ρ vs) x d _ _ s3.self (reW.mono (s2.gr.trans s3.gr)) r3 wipe_wipe h2 fun σ4 ρ4 hw4 re4 h4 => ⟨hw4.trans rfl, ?_⟩
      refine ⟨_, cs2, ρ4, _, Z0, s3.self, re4, h4, fun H5 cs5 k s5 h5 => ?_, fun _ _ _ _ _ _ z => z⟩
      cases k with
      | false => exact iteF ⟨cs5, acc, vacc, s5.from_ (s2.gr.trans s3.gr), ra.mono (s3.gr.trans s5.gr), Nat.le_succ_of_le hla, h5.2 rfl⟩
      | true =>
        refine iteT ⟨_, cs5, ρ4, _, Z0, s5.self, re4.mono s5.gr, h5.1 rfl, fun H6 cs6 y dy s6 r6 h6 => ?_, fun _ _ _ _ _ _ z => z⟩
        refine ⟨_, cs6, ρ4, _, Z0, s6.self, re4.mono (s5.gr.trans s6.gr), h6, fun H7 cs7 z dz s7 r7 h7 => ?_, fun _ _ _ _ _ _ z => z⟩
        obtain ⟨kk, hk, h7⟩ := h7
        have s7' := (s7.from_ ((s2.gr.trans s3.gr).trans (s5.gr.trans s6.gr)))
        obtain ⟨s8, e8⟩ := s7'.turn (o' := .dK (putK vacc kk z)) hFD
        refine ⟨vacc, kk, kOf_rep hk r6, s7.fr D _ upd_same, ?_, cs7, putD acc kk dz, putK vacc kk z, s8, ?_, ?_, h7⟩
        · rw [ra.length]; exact Nat.lt_of_le_of_lt (Nat.le_trans hla hi) (Nat.lt_of_le_of_lt hlen (by decide))
        · rw [e8]
          exact (ra.mono (s3.gr.trans (s5.gr.trans (s6.gr.trans s7.gr)))).put kk r7
        · have := putD_len acc kk dz; omega
variable {kx vx tg iter : Expr} {ifs : List Expr} {scope : Scope} {own : List (Str × Nat)} {wi : WI} {g : TG} {gd : WG} {wt : WT} {wk wv : DL.WE}
theorem d_dcK (hc : X.calm = true) (hN : X.N.Nodup) (hi : DI X W tg iter wi) (ok : BlkOk X.N X.env.scope scope own) (gk : GOk X.K g gd (own.map (·.2)))
    (hg : ∀ (s : Shared) (H : Hp) (C : Addr) (cl : List (Str × Addr)) (fp : List Addr), PG (X.blk s H scope (compEnvC scope cl C X.env) fp) tg g)
    (ht : ∀ (s : Shared) (H : Hp) (C : Addr) (cl : List (Str × Addr)) (fp : List Addr), PTs (X.blk s H scope (compEnvC scope cl C X.env) fp) ifs (lT X.K W0 wt))
    (hk : ∀ (s : Shared) (H : Hp) (C : Addr) (cl : List (Str × Addr)) (fp : List Addr), DE (X.blk s H scope (compEnvC scope cl C X.env) fp) W0 kx wk)
    (he : ∀ (s : Shared) (H : Hp) (C : Addr) (cl : List (Str × Addr)) (fp : List Addr), DE (X.blk s H scope (compEnvC scope cl C X.env) fp) W0 vx wv) (hs : ∀ x, foldedSetIterable iter X.env x = pure x := by intro _; rfl) :
    DE X W (.DictComp kx vx [⟨tg, iter, ifs, 0⟩] scope pos) (wDcR wi gd wt wk wv (own.map (·.2)) RMK) := PE.imp (pe_dc hc hN hi ok hg ht hk he hs) fun _ _ _ h => dcK_ok gk h
end
section
variable {X : Cx} {W : WX} {K : PySem.W.Frag} {σ : L2.St} {H : Hp} {pos : Pos}
abbrev RMT : DP → List (List Key × D) → Cs → Prop := fun P ds cs2 => ∀ p, p ∉ adr cs2 → P (.opq (.ref p)) ((p, .dct ds) :: cs2)
def dtW (g : WG) (wt : WT) (w : WA) (wv : DL.WE) : List D → DL.Env → Cs → List (List Key × D) → (List (List Key × D) → Cs → Prop) → Prop
  | [], _, cs, acc, P => P acc cs
  | d :: r, ρ, cs, acc, P => g d ρ fun ρ1 => wt ρ1 cs (fun k cs1 => (k = true → w ρ1 cs1 (fun ys cs2 => wv ρ1 cs2 (fun z cs3 => ∃ ks, ksOf ys = some ks ∧ dtW g wt w wv r ρ cs3 (putD acc ks z) P) Z0) Z0) ∧ (k = false → dtW g wt w wv r ρ cs1 acc P)) Z0
def wDtR (wi : WI) (g : WG) (wt : WT) (w : WA) (wv : DL.WE) (vs : List Nat) : DL.WE := fun ρ cs P Z => wi ρ cs (fun xs cs1 => xs.length ≤ 100000 ∧ dtW g wt w wv xs (wipeD ρ vs) cs1 [] (RMT P)) Z
/-- {x: v for x in d if test}, d a dict of tuples that is data -/
def dkW (i : Nat) (wt : WT) (wv : DL.WE) : List (List Key) → DL.Env → Cs → List (List Key × D) → (List (List Key × D) → Cs → Prop) → Prop
  | [], _, cs, acc, P => P acc cs
  | k :: r, ρ, cs, acc, P => wt (ρ.set i (some (.tup (k.map kD)))) cs (fun b cs1 => (b = true → wv (ρ.set i (some (.tup (k.map kD)))) cs1 (fun z cs2 => dkW i wt wv r ρ cs2 (putD acc k z) P) Z0) ∧ (b = false → dkW i wt wv r ρ cs1 acc P)) Z0
def wDkR (i : Nat) (we : DL.WE) (wt : WT) (wv : DL.WE) (vs : List Nat) : DL.WE := fun ρ cs P Z => we ρ cs (fun d cs1 => match d with
  | .dct kvs => kvs.length ≤ 100000 ∧ dkW i wt wv (kvs.map (·.1)) (wipeD ρ vs) cs1 [] (RMT P)
  | _ => False) Z
variable {kx vx tg iter : Expr} {ifs : List Expr} {scope : Scope} {own : List (Str × Nat)} {wi : WI} {g : TG} {gd : WG} {wt : WT} {w : WA} {wv we : DL.WE} {es : List Expr} {kt : Nat} {kp px : Pos} {x : Str} {i0 : Nat}
end
section
variable {ρ : DL.Env} {cs : Cs} {P : DP} {Z : XZ} {we wk wv : DL.WE} {wt : WT} {w : WA} {g : WG}
theorem r_keysI {R : List D → Cs → Prop} (h : we ρ cs (fun d cs1 => match d with
  | .dic kvs => R (kvs.map fun p => kD p.1) cs1
  | .dct kvs => R (kvs.map fun p => D.tup (p.1.map kD)) cs1
  | _ => False) Z) : iKeysD we ρ cs R Z := h
theorem r_dcK {wi : WI} {vs : List Nat} (h : wi ρ cs (fun xs cs1 => xs.length ≤ 100000 ∧ dcW g wt wk wv xs (wipeD ρ vs) cs1 [] (fun ds cs2 => ∀ p, p ∉ adr cs2 → P (.opq (.ref p)) ((p, .dic ds) :: cs2))) Z) : wDcR wi g wt wk wv vs RMK ρ cs P Z := h
theorem r_dcT {wi : WI} {vs : List Nat} (h : wi ρ cs (fun xs cs1 => xs.length ≤ 100000 ∧ dtW g wt w wv xs (wipeD ρ vs) cs1 [] (fun ds cs2 => ∀ p, p ∉ adr cs2 → P (.opq (.ref p)) ((p, .dct ds) :: cs2))) Z) : wDtR wi g wt w wv vs ρ cs P Z := h
theorem r_dcKT {i : Nat} {vs : List Nat} (h : we ρ cs (fun d cs1 => match d with
  | .dct kvs => kvs.length ≤ 100000 ∧ dkW i wt wv (kvs.map (·.1)) (wipeD ρ vs) cs1 [] (fun ds cs2 => ∀ p, p ∉ adr cs2 → P (.opq (.ref p)) ((p, .dct ds) :: cs2))
  | _ => False) Z) : wDkR i we wt wv vs ρ cs P Z := h
theorem lk_app_none {κ : Type} [DecidableEq κ] {acc : List (κ × D)} {k k' : κ} {v : D} (h : lk acc k = none) (hn : k ≠ k') : lk (acc ++ [(k', v)]) k = none := by
  rw [look_app, h, if_neg hn]; rfl
theorem r_ks2 {i j : Int} {z : D} {N : List Key → D → Cs → Prop} (h : N [.inl i, .inl j] z cs) : ∃ ks, ksOf [.int i, .int j] = some ks ∧ N ks z cs := ⟨_, rfl, h⟩
/-- keys that are ints or texts -/
theorem r_dcmA {α : Type} {R : List (Key × D) → Cs → Prop} {g0 : α → D} (kf : α → Key) (vf : α → D) : ∀ (l : List α) (acc : List (Key × D)), (∀ a ∈ l, lk acc (kf a) = none) → (l.map kf).Nodup →
    (∀ a (N : Key → D → Cs → Prop) (N' : Cs → Prop), a ∈ l → N (kf a) (vf a) cs → g (g0 a) ρ fun ρ1 => wt ρ1 cs (fun b cs1 => (b = true → wk ρ1 cs1 (fun y cs2 => wv ρ1 cs2 (fun z cs3 => ∃ kk, kOf y = some kk ∧ N kk z cs3) Z0) Z0) ∧ (b = false → N' cs1)) Z0) →
    R (acc ++ l.map fun a => (kf a, vf a)) cs → dcW g wt wk wv (l.map g0) ρ cs acc R
  | [], acc, _, _, _, hd => by rw [List.map_nil, List.append_nil] at hd; exact hd
  | a :: l, acc, hn, nd, hs, hd => by
    rw [List.map_cons] at nd
    obtain ⟨n1, n2⟩ := List.nodup_cons.mp nd
    refine hs a (fun ks z cs3 => dcW g wt wk wv (l.map g0) ρ cs3 (putD acc ks z) R) (fun cs1 => dcW g wt wk wv (l.map g0) ρ cs1 acc R) (List.mem_cons_self ..) ?_
    rw [putD_new _ (hn a (List.mem_cons_self ..))]
    refine r_dcmA kf vf l _ (fun b hb => lk_app_none (hn b (List.mem_cons_of_mem _ hb)) fun z => n1 (by rw [← z]; exact List.mem_map.mpr ⟨b, hb, rfl⟩)) n2 (fun b N N' hb => hs b N N' (List.mem_cons_of_mem _ hb)) ?_
    rw [List.append_assoc]; exact hd
theorem r_dcm {α : Type} {R : List (Key × D) → Cs → Prop} {xs : List D} {l : List α} {g0 : α → D} (e : xs = l.map g0) (kf : α → Key) (vf : α → D) (hnd : (l.map kf).Nodup)
    (hs : ∀ a (N : Key → D → Cs → Prop) (N' : Cs → Prop), a ∈ l → N (kf a) (vf a) cs → g (g0 a) ρ fun ρ1 => wt ρ1 cs (fun b cs1 => (b = true → wk ρ1 cs1 (fun y cs2 => wv ρ1 cs2 (fun z cs3 => ∃ kk, kOf y = some kk ∧ N kk z cs3) Z0) Z0) ∧ (b = false → N' cs1)) Z0)
    (hd : R (l.map fun a => (kf a, vf a)) cs) : dcW g wt wk wv xs ρ cs [] R := by
  subst e; exact r_dcmA kf vf l [] (fun _ _ => rfl) hnd hs hd
theorem r_kkI {i : Int} {z : D} {N : Key → D → Cs → Prop} (h : N (.inl i) z cs) : ∃ kk, kOf (.int i) = some kk ∧ N kk z cs := ⟨_, rfl, h⟩
theorem r_kkS {x : Str} {z : D} {N : Key → D → Cs → Prop} (h : N (.inr x) z cs) : ∃ kk, kOf (.str x) = some kk ∧ N kk z cs := ⟨_, rfl, h⟩
end
end DL
namespace DL
open PySem PySem.Spec PyProof.Rows L2
/-- the rows: first and end -/
def spots (n : Nat) : List (Nat × Nat) := (List.range n).flatMap fun f => (List.range (n - f)).map fun j => (f, f + 1 + j)
def spK (p : Nat × Nat) : List Key := [.inl (p.1 : Int), .inl (p.2 : Int)]
theorem spK_inj {p q : Nat × Nat} (h : spK p = spK q) : p = q := by
  obtain ⟨a, b⟩ := p
  obtain ⟨c, d⟩ := q
  simp only [spK, List.cons.injEq, Sum.inl.injEq, and_true] at h
  obtain ⟨h1, h2⟩ := h
  have e1 : a = c := by omega
  have e2 : b = d := by omega
  rw [e1, e2]
theorem mem_spots {n : Nat} {p : Nat × Nat} : p ∈ spots n ↔ p.1 < p.2 ∧ p.2 ≤ n := by
  unfold spots
  rw [List.mem_flatMap]
  constructor
  · rintro ⟨f, hf, hp⟩
    obtain ⟨j, hj, rfl⟩ := List.mem_map.mp hp
    have := List.mem_range.mp hf
    have := List.mem_range.mp hj
    simp only
    omega
  · rintro ⟨h1, h2⟩
    refine ⟨p.1, List.mem_range.mpr (by omega), List.mem_map.mpr ⟨p.2 - p.1 - 1, List.mem_range.mpr (by omega), ?_⟩⟩
    obtain ⟨a, b⟩ := p
    simp only at h1 h2 ⊢
    congr 1
    omega
/-- the shape of the row from f to e -/
def shp (b : Bx) (dn : Bool) (ws : List Int) (f e : Nat) : Rat := rowShape b dn ws f (e - f)
def tabOf (sh : Nat → Nat → Rat) (l : List (Nat × Nat)) : List (List Key × D) := l.map fun p => (spK p, dR (sh p.1 p.2))
def shapesT (b : Bx) (dn : Bool) (ws : List Int) : List (List Key × D) := tabOf (shp b dn ws) (spots ws.length)
theorem lk_tab {sh : Nat → Nat → Rat} {l : List (Nat × Nat)} {f e : Nat} (h : (f, e) ∈ l) : lk (tabOf sh l) [.inl (f : Int), .inl (e : Int)] = some (dR (sh f e)) :=
  look_map spK (fun p => dR (sh p.1 p.2)) (f, e) l h fun y _ hy => spK_inj hy
theorem lk_shapes {b : Bx} {dn : Bool} {ws : List Int} {f e : Int} (h0 : 0 ≤ f) (h1 : f < e) (h2 : e ≤ ws.length) : lk (shapesT b dn ws) [.inl f, .inl e] = some (dR (shp b dn ws f.toNat e.toNat)) := by
  have := lk_tab (sh := shp b dn ws) (l := spots ws.length) (f := f.toNat) (e := e.toNat) (mem_spots.mpr ⟨by simp only; omega, by simp only; omega⟩)
  rw [show ((f.toNat : Nat) : Int) = f by omega, show ((e.toNat : Nat) : Int) = e by omega] at this
  exact this
theorem r_getSh {b : Bx} {dn : Bool} {ws : List Int} {f e : Int} {cs : Cs} {P : DP} (h0 : 0 ≤ f) (h1 : f < e) (h2 : e ≤ ws.length) (h : P (dR (shp b dn ws f.toNat e.toNat)) cs) : oGetD (.dct (shapesT b dn ws)) (.tup [.int f, .int e]) cs P := r_getT2 (lk_shapes h0 h1 h2) h
end DL
namespace DL
open PySem PySem.Spec PyProof.Rows L2
/-- rows of sizes from f to n -/
inductive Way (n : Nat) : Nat → List Nat → Prop
  | nil : Way n n []
  | cons {f z : Nat} {zs : List Nat} : 1 ≤ z → f + z ≤ n → Way n (f + z) zs → Way n f (z :: zs)
theorem Way.le {n f : Nat} {zs : List Nat} (h : Way n f zs) : f ≤ n := by
  cases h with
  | nil => exact Nat.le_refl _
  | cons h1 h2 _ => omega
theorem Way.sum {n f : Nat} {zs : List Nat} (h : Way n f zs) : f + zs.sum = n := by
  induction h with
  | nil => rfl
  | cons _ _ _ ih => rw [List.sum_cons]; omega
theorem Way.pos {n f : Nat} {zs : List Nat} (h : Way n f zs) : ∀ z ∈ zs, 1 ≤ z := by
  induction h with
  | nil => intro z hz; cases hz
  | cons h1 _ _ ih =>
    intro z hz
    rcases List.mem_cons.mp hz with e | e
    · rw [e]; exact h1
    · exact ih z e
theorem Way.of {n : Nat} : ∀ {f : Nat} {zs : List Nat}, (∀ z ∈ zs, 1 ≤ z) → f + zs.sum = n → Way n f zs
  | f, [], _, h => by
    have : f = n := by simpa using h
    rw [this]; exact .nil
  | f, z :: zs, hp, h => by
    rw [List.sum_cons] at h
    exact .cons (hp z (List.mem_cons_self ..)) (by omega) (Way.of (fun y hy => hp y (List.mem_cons_of_mem _ hy)) (by omega))
theorem Way.end_ {n : Nat} {zs : List Nat} (h : Way n n zs) : zs = [] := by
  cases h with
  | nil => rfl
  | cons h1 h2 _ => omega
theorem way_ones {n : Nat} : ∀ (k f : Nat), f + k = n → Way n f (List.replicate k 1)
  | 0, f, h => by
    have : f = n := by omega
    subst this; exact .nil
  | k + 1, f, h => .cons (Nat.le_refl _) (by omega) (way_ones k (f + 1) (by omega))
/-- the worst shape of rows -/
def wFrom (sh : Nat → Nat → Rat) : Nat → List Nat → Rat
  | _, [] => 1
  | f, z :: zs => mxR (sh f (f + z)) (wFrom sh (f + z) zs)
theorem wFrom_or (sh : Nat → Nat → Rat) {n : Nat} {f : Nat} {zs : List Nat} (h : Way n f zs) : wFrom sh f zs = 1 ∨ ∃ a b, a < b ∧ b ≤ n ∧ wFrom sh f zs = sh a b := by
  induction h with
  | nil => exact .inl rfl
  | @cons f z zs h1 h2 _ ih =>
    rw [wFrom]
    rcases mxR_or (sh f (f + z)) (wFrom sh (f + z) zs) with e | e
    · exact .inr ⟨f, f + z, by omega, h2, e⟩
    · rw [e]; exact ih
/-- x is the least worst shape behind f -/
structure IsLE (sh : Nat → Nat → Rat) (n f : Nat) (x : Rat) : Prop where
  is : ∃ zs, Way n f zs ∧ wFrom sh f zs = x
  le : ∀ zs, Way n f zs → x ≤ wFrom sh f zs
section
variable {sh : Nat → Nat → Rat} {n f : Nat} {x y : Rat}
theorem IsLE.uniq (h : IsLE sh n f x) (h' : IsLE sh n f y) : x = y := by
  obtain ⟨zs, w, e⟩ := h.is
  obtain ⟨zs', w', e'⟩ := h'.is
  exact Rat.le_antisymm (by rw [← e']; exact h.le zs' w') (by rw [← e]; exact h'.le zs w)
theorem IsLE.end_ : IsLE sh n n 1 := ⟨⟨[], .nil, rfl⟩, fun zs h => by rw [h.end_]; exact Rat.le_refl⟩
theorem IsLE.sz {k : Nat} (h : IsLE sh n f x) (h1 : Sz k 1) (hs : ∀ a b, a < b → b ≤ n → Sz k (sh a b)) : Sz k x := by
  obtain ⟨zs, w, rfl⟩ := h.is
  rcases wFrom_or sh w with e | ⟨a, b, ha, hb, e⟩
  · rw [e]; exact h1
  · rw [e]; exact hs a b ha hb
open Classical in
/-- the least worst shape behind f -/
noncomputable def LE (sh : Nat → Nat → Rat) (n f : Nat) : Rat := if h : ∃ x, IsLE sh n f x then h.choose else 1
theorem IsLE.eq (h : IsLE sh n f x) : LE sh n f = x := by
  unfold LE
  rw [dif_pos ⟨x, h⟩]
  exact (Exists.choose_spec (⟨x, h⟩ : ∃ x, IsLE sh n f x)).uniq h
end
/-- the first of the ways on which all rows are good -/
inductive IsFW (good : Nat → Nat → Prop) (n : Nat) : Nat → List Nat → Prop
  | nil : IsFW good n n []
  | cons {f z : Nat} {zs : List Nat} : 1 ≤ z → f + z ≤ n → good f (f + z) → (∀ y, 1 ≤ y → y < z → ¬ good f (f + y)) → IsFW good n (f + z) zs → IsFW good n f (z :: zs)
section
variable {good : Nat → Nat → Prop} {n f : Nat} {zs ys : List Nat}
theorem IsFW.way (h : IsFW good n f zs) : Way n f zs := by
  induction h with
  | nil => exact .nil
  | cons h1 h2 _ _ _ ih => exact .cons h1 h2 ih
theorem IsFW.uniq (h : IsFW good n f zs) : ∀ {ys}, IsFW good n f ys → zs = ys := by
  induction h with
  | nil => intro ys h'; exact h'.way.end_.symm
  | @cons f z zs h1 h2 g m r ih =>
    intro ys h'
    cases h' with
    | nil => omega
    | @cons _ y ys h1' h2' g' m' r' =>
      have e : z = y := by
        rcases Nat.lt_trichotomy z y with q | q | q
        · exact absurd g (m' z h1 q)
        · exact q
        · exact absurd g' (m y h1' q)
      subst e
      rw [ih r']
end
section
variable {sh : Nat → Nat → Rat} {n f : Nat} {B : Rat}
theorem IsFW.snoc {good : Nat → Nat → Prop} {g e : Nat} {ys : List Nat} (h : ∀ zs, IsFW good n f zs → IsFW good n g (ys ++ zs)) (h1 : f < e) (h2 : e ≤ n) (hg : good f e) (hn : ∀ y, f < y → y < e → ¬ good f y) : ∀ zs, IsFW good n e zs → IsFW good n g ((ys ++ [e - f]) ++ zs) := fun zs hz => by
  rw [List.append_assoc]
  have e1 : f + (e - f) = e := by omega
  exact h _ (.cons (by omega) (by omega) (by rw [e1]; exact hg) (fun y y1 y2 => hn (f + y) (by omega) (by omega)) (by rw [e1]; exact hz))
end
theorem sum_cast : ∀ (l : List Nat), ((l.map fun z : Nat => (z : Int)).sum : Int) = (l.sum : Nat)
  | [] => rfl
  | z :: l => by rw [List.map_cons, List.sum_cons, List.sum_cons, sum_cast l]; omega
theorem way_szok {n : Nat} {zs : List Nat} (h : Way n 0 zs) : SzOk (zs.map fun z : Nat => (z : Int)) n := by
  refine ⟨fun z hz => ?_, ?_⟩
  · obtain ⟨y, hy, rfl⟩ := List.mem_map.mp hz
    have := h.pos y hy
    omega
  · rw [sum_cast]
    have := h.sum
    omega
end DL
namespace DL
open PySem PySem.Spec PyProof.Rows L2
section
variable {X : Cx} {W : WX} {K : PySem.W.Frag} {σ : L2.St} {H : Hp} {a e : Expr} {wa we : DL.WE} {w : WA} {pos : Pos}
/-- n - 1, .., 0 -/
def dnD (n : Nat) : List D := (List.range n).map fun (i : Nat) => D.int ((n : Int) - 1 - (i : Int))
def iRev1 (wa : DL.WE) : WI := fun ρ cs P Z => wa ρ cs (fun d cs1 => match d with
  | .int j => (0 ≤ j ∧ j < 2 ^ 62) ∧ P (dnD j.toNat) cs1
  | _ => False) Z
/-- range(a, b, -1) -/
def dnR (i : Int) (n : Nat) : List D := (List.range n).map fun (k : Nat) => D.int (i - (k : Int))
def iRg3 (w : WA) : WI := fun ρ cs P Z => w ρ cs (fun ds cs1 => match ds with
  | [.int i, .int j, .int (-1)] => (-(2 ^ 62) ≤ i ∧ i < 2 ^ 62 ∧ -(2 ^ 62) ≤ j ∧ j < 2 ^ 62) ∧ P (dnR i (i - j).toNat) cs1
  | _ => False) Z
/-- list(range(n)) -/
def wLstR (wa : DL.WE) : DL.WE := fun ρ cs P Z => wa ρ cs (fun d cs1 => match d with
  | .int j => (0 ≤ j ∧ j ≤ 100000) ∧ P (.lst (rngD 0 j.toNat)) cs1
  | _ => False) Z
def wLstRM (wa : DL.WE) : DL.WE := fun ρ cs P Z => wa ρ cs (fun d cs1 => match d with
  | .int j => (0 ≤ j ∧ j ≤ 100000) ∧ ∀ p, p ∉ adr cs1 → P (.opq (.ref p)) ((p, .lst (rngD 0 j.toNat)) :: cs1)
  | _ => False) Z
end
section
variable {ρ : DL.Env} {cs : Cs} {P : DP} {Z : XZ} {wa wb wc : DL.WE}
theorem r_rev1 {R : List D → Cs → Prop} (h : wa ρ cs (fun d cs1 => match d with
  | .int j => (0 ≤ j ∧ j < 2 ^ 62) ∧ R (dnD j.toNat) cs1
  | _ => False) Z) : iRev1 wa ρ cs R Z := h
theorem r_rg3 {R : List D → Cs → Prop} {i j : Int} {w : WA} (h : w ρ cs (fun ds cs1 => match ds with
  | [.int i, .int j, .int (-1)] => (-(2 ^ 62) ≤ i ∧ i < 2 ^ 62 ∧ -(2 ^ 62) ≤ j ∧ j < 2 ^ 62) ∧ R (dnR i (i - j).toNat) cs1
  | _ => False) Z) : iRg3 w ρ cs R Z := h
theorem r_lstR (h : wa ρ cs (fun d cs1 => match d with
  | .int j => (0 ≤ j ∧ j ≤ 100000) ∧ P (.lst (rngD 0 j.toNat)) cs1
  | _ => False) Z) : wLstR wa ρ cs P Z := h
theorem r_lstRM (h : wa ρ cs (fun d cs1 => match d with
  | .int j => (0 ≤ j ∧ j ≤ 100000) ∧ ∀ p, p ∉ adr cs1 → P (.opq (.ref p)) ((p, .lst (rngD 0 j.toNat)) :: cs1)
  | _ => False) Z) : wLstRM wa ρ cs P Z := h
end
end DL
namespace DL
open PySem PySem.Spec PyProof.Rows L2
section
variable {X : Cx} {W : WX} {K : PySem.W.Frag} {σ : L2.St} {H : Hp} {pos : Pos} {a b e : Expr} {es : List Expr} {wa wb we : DL.WE} {w : WA} {apos cpos : Pos}
def isDM (d : D) (cs : Cs) : Prop := match d with
  | .opq (.ref p) => (match look p cs with
    | some (.dic _) => True
    | some (.dct _) => True
    | _ => False)
  | _ => False
theorem isDM_ty {F : Hp} {cs : Cs} {x : V} {dx : D} (s : Sta K F (pur F cs H) cs H) (r : Rep K (pur F cs H) x dx) (h : isDM dx cs) : tyV K "dict" x H := by
  unfold isDM at h
  split at h
  · split at h
    · rename_i e
      obtain ⟨vs, e2, _⟩ := dic_at s e
      cases r
      exact .inr (.inr (.inl ⟨rfl, .inl ⟨_, e2⟩⟩))
    · rename_i e
      obtain ⟨vs, e2, _⟩ := dct_at s e
      cases r
      exact .inr (.inr (.inl ⟨rfl, .inr ⟨_, e2⟩⟩))
    · exact h.elim
  · exact h.elim
def wMtD (o : DMt) (wo : DL.WE) (w : WA) : DL.WE := fun ρ cs P Z => wo ρ cs (fun x cs1 => isDM x cs1 ∧ w ρ cs1 (fun ds cs2 => o x ds cs2 P) Z) Z
def mergeD (kvs more : List (Key × D)) : List (Key × D) := more.foldl (fun acc kv => putD acc kv.1 kv.2) kvs
def rUpd : V → List V → Hp → VK → Prop := fun x xs H Q => ∃ p q kvs more, x = .ref p ∧ xs = [.ref q] ∧ H p = some (.dK kvs) ∧ Rd H q (.dK more) ∧ p ≠ q ∧ kvs.length + more.length ≤ sizeLine ∧ Q .non (upd H p (.dK (mergeK kvs more)))
theorem mt_upd : MtR X "dict.update" rUpd := by
  intro pins s σ H x xs v us Q I rx rs h
  obtain ⟨p, q, kvs, more, rfl, rfl, hp, hq, hne, hz, h⟩ := h
  obtain ⟨u, rfl, ru⟩ := vals1 rs
  cases rx
  cases ru
  obtain ⟨z1, hd, vs, rel, dd⟩ := dk_of I.hok hp
  obtain ⟨z2, hd2, vs2, rel2, dd2⟩ := dk_rd I.hok hq
  refine call_meetsIn PySem.F.slot_dict_update dd.typeIs PySem.F.entry_dict_update (PySem.F.args_dict_update_2 _ _) (meets_dict_update (mixKind X.prog X.w) p q hne hd2) ⟨vs, vs2, dd, dd2, by rw [← rel.length, ← rel2.length]; exact hz, fun h' dd' _ hs => ⟨.non, _, ?_, rfl, h⟩⟩
  have he : ∃ o, h'.get? p = some o := let ⟨o, _, _, ho, _⟩ := dd'; ⟨o, ho⟩
  exact d_write (t' := s.toks) I (by rw [hp]; exact True.intro) hs he (dk_new (Nat.le_trans (length_mergeK more kvs) hz) hd (rel2.merge rel) dd')
theorem RG.merge {G : Hp} {more : List (Key × V)} {dm : List (Key × D)} (h : RG K G more dm) : ∀ {xs : List (Key × V)} {ds : List (Key × D)}, RG K G xs ds → RG K G (mergeK xs more) (mergeD ds dm) := by
  induction h with
  | nil => intro xs ds h; exact h
  | cons h _ ih => intro xs ds h0; exact ih (h0.put _ h)
def oUpd : DMt := fun x ds cs P => ∃ p kvs more, x = .opq (.ref p) ∧ look p cs = some (.dic kvs) ∧ ds = [.dic more] ∧ kvs.length + more.length ≤ 100000 ∧ P .non (put p (.dic (mergeD kvs more)) cs)
theorem adq_upd : AdqM K "dict" rUpd oUpd := fun F cs H x xs dx ds P Q s rx rl ho pe => by
  obtain ⟨p, kvs, more, rfl, hl, rfl, hz, h⟩ := ho
  obtain ⟨vs, e, rv⟩ := dic_at s hl
  cases rx
  cases rl with
  | cons r1 r2 =>
  cases r2
  cases r1 with
  | @dic q o ms _ eq rm =>
  have hp : p ∈ adr cs := List.mem_map.mpr ⟨(p, _), look_mem hl, rfl⟩
  have s4 := s.put hl (m' := .dic (mergeD kvs more)) (o' := .dK (mergeK vs ms)) (rm.rg.merge rv).rk
  refine ⟨p, q, vs, ms, rfl, rfl, e, .inr ⟨o, pur_le _ _ eq⟩, fun z => ?_, ?_, pe _ _ _ _ s4 .non h⟩
  · rw [← z, pur_at_no hp] at eq; cases eq
  · rw [rv.length, rm.rg.length]; exact Nat.le_trans hz (by decide)
theorem d_update (ho : DE X W a wa) (ha : DA X W [e] w) (hbase : attributeBase a "update" X.env (eval a X.env) = eval a X.env := by rfl)
    (hfew : ((backTo cpos (starEach [e] X.env)).all (fun x => !x.1) && (backToKw cpos (keywordEach [] X.env)).all (fun x => x.1.isSome)
      && decide ([e].length + ([] : List Keyword).length + (if ([] : List Keyword).isEmpty then 0 else 1) < 30)) = true := by rfl)
    (hline : (apos.endLine == cpos.line) = true := by rfl) (hs : starEach [e] X.env = (false, eval e X.env) :: starEach [] X.env := by rfl) (hplain : (backTo cpos (starEach [] X.env)).any (·.1) = false := by rfl) :
    DE X W (.Call (.Attribute a "update" apos) [e] [] cpos) (wMtD oUpd wa w) := PE.imp (pe_bm PySem.F.plainAttrs_dict PySem.F.slot_dict_update PySem.F.type_dict_update mt_upd ho ha hbase hfew hline hs hplain) fun σ H Q h => by
  obtain ⟨F, cs, ρ, P, Z, s, re, hw, pe, px⟩ := h
  refine ⟨F, cs, ρ, _, Z, s, re, hw, fun H1 cs1 x dx s1 r1 h1 => ⟨isDM_ty s1.self r1 h1.1, ?_⟩, px⟩
  refine ⟨F, cs1, ρ, _, Z, s1.self, re.mono s1.gr, h1.2, fun H2 cs2 vs ds s2 r2 l2 h2 => ?_, px.le s1.gr⟩
  exact adq_upd F cs2 H2 x vs dx ds P Q s2.self (r1.mono s2.gr) r2 h2 (pe.le (s1.gr.trans s2.gr))
/-- d.get(k, x) -/
def wGet2 (wo wk wz : DL.WE) : DL.WE := fun ρ cs P Z => wo ρ cs (fun x cs1 => (∃ dd, ddAt x cs1 = some dd) ∧ wk ρ cs1 (fun k cs2 => wz ρ cs2 (fun z cs3 => ∃ o, getV x k cs3 = some o ∧ P (o.getD z) cs3) Z) Z) Z
theorem dd_isD {F : Hp} {cs : Cs} {x : V} {dx : D} {dd : DD} (s : Sta K F (pur F cs H) cs H) (r : Rep K (pur F cs H) x dx) (h : ddAt dx cs = some dd) : ∃ p, x = .ref p ∧ IsD H p := by
  cases dd with
  | inl kvs =>
    obtain ⟨p, vs, rfl, h1, _⟩ := dd_k s r h
    exact ⟨p, rfl, .inl ⟨_, h1⟩⟩
  | inr kvs =>
    obtain ⟨p, vs, rfl, h1, _⟩ := dd_t s r h
    exact ⟨p, rfl, .inr ⟨_, h1⟩⟩
def tGet2X (K : PySem.W.Frag) (td ty tx : TE) : TE := fun σ H Q => td σ H fun x H1 => ∃ p, x = .ref p ∧ IsD H1 p ∧ ty σ H1 fun y H2 => tx σ H2 fun z H3 => ∃ o, LookX K H3 p y o ∧ Q (o.getD z) H3
theorem pe_get2X {f : Expr} {td ty tx : TE} (hu : X.A.units + 64 < cLine) (ho : PE X a td) (he : PE X e ty) (hf : PE X f tx) (m : M2 X a "get" apos e f cpos) : PE X (.Call (.Attribute a "get" apos) [e, f] [] cpos) (tGet2X X.K td ty tx) := by
  refine ⟨fun pins s σ H Q I h => ?_⟩
  refine wpAny_Call_method m.base m.few m.line PySem.F.plainAttrs_dict PySem.F.slot_dict_get PySem.F.type_dict_get (thn (ho.run pins s σ H _ I h) fun u s1 ⟨x, H1, I1, rx, p, ex, d, q1⟩ => ?_)
  subst ex
  obtain rfl : u = Value.ref p := rx
  obtain ⟨t1, t2, _⟩ := isD_at I1 d
  refine ⟨t1, t2, ?_⟩
  rw [m.trees]
  refine Calls.callWith_builtin rfl (Calls.evalArgs_plain (Calls.spliced_cons (thn (he.run pins s1 σ H1 _ I1 q1) fun iv s2 ⟨y, H2, I2, ry, q2⟩ => Calls.spliced_cons (thn (hf.run pins s2 σ H2 _ I2 q2) fun fv s3 ⟨z, H3, I3, rz, ov, g, q3⟩ => Calls.spliced_nil ?_))))
  exact x_get2 (by omega) I3 g ry rz fun w' s4 I4 rw' => ⟨_, H3, I4, rw', q3⟩
theorem d_get2D {f : Expr} {wk wz : DL.WE} (hu : X.A.units + 64 < cLine) (ho : DE X W a wa) (he : DE X W e wk) (hf : DE X W f wz) (m : M2 X a "get" apos e f cpos := by exact ⟨rfl, rfl, rfl, rfl⟩) : DE X W (.Call (.Attribute a "get" apos) [e, f] [] cpos) (wGet2 wa wk wz) :=
  PE.imp (pe_get2X hu ho he hf m) fun σ H Q h => by
    obtain ⟨F, cs, ρ, P, Z, s, re, hw, pe, px⟩ := h
    refine ⟨F, cs, ρ, _, Z, s, re, hw, fun H1 cs1 x dx s1 r1 h1 => ?_, px⟩
    obtain ⟨⟨dd, hdd⟩, h1⟩ := h1
    obtain ⟨p, rfl, hD⟩ := dd_isD s1.self r1 hdd
    refine ⟨p, rfl, hD, F, cs1, ρ, _, Z, s1.self, re.mono s1.gr, h1, fun H2 cs2 y dy s2 r2 h2 => ?_, px.le s1.gr⟩
    refine ⟨F, cs2, ρ, _, Z, s2.self, re.mono (s1.gr.trans s2.gr), h2, fun H3 cs3 z dz s3 r3 h3 => ?_, px.le (s1.gr.trans s2.gr)⟩
    obtain ⟨o, ho, h4⟩ := h3
    obtain ⟨p', r, e', g, rq⟩ := getV_ok s3.self (r1.mono (s2.gr.trans s3.gr)) (r2.mono s3.gr) ho
    cases e'
    exact ⟨r, g, pe H3 cs3 _ _ (s3.from_ (s1.gr.trans s2.gr)) (rq.getD r3) h4⟩
end
section
variable {ρ : DL.Env} {cs : Cs} {P : DP} {Z : XZ} {wo wk wz : DL.WE} {w : WA} {p : Addr} {kvs more : List (Key × D)}
theorem r_mtD {o : DMt} (h : wo ρ cs (fun x cs1 => isDM x cs1 ∧ w ρ cs1 (fun ds cs2 => o x ds cs2 P) Z) Z) : wMtD o wo w ρ cs P Z := h
theorem r_isDM (hl : look p cs = some (.dic kvs)) {R : Prop} (h : R) : isDM (.opq (.ref p)) cs ∧ R := ⟨by unfold isDM; simp only [hl], h⟩
theorem r_updH (hz : kvs.length + more.length ≤ 100000) (h : P .non ((p, .dic (mergeD kvs more)) :: cs)) : oUpd (.opq (.ref p)) [.dic more] ((p, .dic kvs) :: cs) P := ⟨p, kvs, more, rfl, by simp [look], rfl, hz, by rw [put_hd]; exact h⟩
theorem r_get2 (h : wo ρ cs (fun x cs1 => (∃ dd, ddAt x cs1 = some dd) ∧ wk ρ cs1 (fun k cs2 => wz ρ cs2 (fun z cs3 => ∃ o, getV x k cs3 = some o ∧ P (o.getD z) cs3) Z) Z) Z) : wGet2 wo wk wz ρ cs P Z := h
theorem r_ddK {R : Prop} (h : R) : (∃ dd, ddAt (.dic kvs) cs = some dd) ∧ R := ⟨⟨.inl kvs, rfl⟩, h⟩
theorem r_ddM (hl : look p cs = some (.dic kvs)) {R : Prop} (h : R) : (∃ dd, ddAt (.opq (.ref p)) cs = some dd) ∧ R := ⟨⟨.inl kvs, by simp [ddAt, hl]⟩, h⟩
theorem r_gvKI {i : Int} {R : Option D → Prop} (h : R (lk kvs (.inl i))) : ∃ o, getV (.dic kvs) (.int i) cs = some o ∧ R o := ⟨_, by simp [getV, ddAt, kOf], h⟩
theorem r_gvKS {x : Str} {R : Option D → Prop} (h : R (lk kvs (.inr x))) : ∃ o, getV (.dic kvs) (.str x) cs = some o ∧ R o := ⟨_, by simp [getV, ddAt, kOf], h⟩
theorem r_gvMI {i : Int} {R : Option D → Prop} (hl : look p cs = some (.dic kvs)) (h : R (lk kvs (.inl i))) : ∃ o, getV (.opq (.ref p)) (.int i) cs = some o ∧ R o := ⟨_, by simp [getV, ddAt, hl, kOf], h⟩
theorem r_gvMS {x : Str} {R : Option D → Prop} (hl : look p cs = some (.dic kvs)) (h : R (lk kvs (.inr x))) : ∃ o, getV (.opq (.ref p)) (.str x) cs = some o ∧ R o := ⟨_, by simp [getV, ddAt, hl, kOf], h⟩
end
end DL
namespace DL
open PySem PySem.Spec PyProof.Rows L2
/-- e is come to by rows of shapes below r -/
inductive Rch (sh : Nat → Nat → Rat) (n : Nat) (r : Rat) : Nat → Prop
  | zero : Rch sh n r 0
  | step {f e : Nat} : Rch sh n r f → f < e → e ≤ n → sh f e < r → Rch sh n r e
section
variable {sh : Nat → Nat → Rat} {n : Nat} {r : Rat}
theorem Rch.le {e : Nat} (h : Rch sh n r e) : e ≤ n := by
  cases h with
  | zero => exact Nat.zero_le _
  | step _ _ h _ => exact h
end
abbrev natI (l : List Nat) : List Int := l.map fun z : Nat => (z : Int)
section
variable {cs : Cs} {P : DP} {s : Int} {ss : List Int} {x : Str} {xs : List Str}
theorem r_inLI (h : P (.bl (decide (s ∈ ss))) cs) : oIn (.int s) (.lst (ss.map D.int)) cs P := .inr ⟨s, ss, rfl, .inr rfl, h⟩
theorem r_inTI (h : P (.bl (decide (s ∈ ss))) cs) : oIn (.int s) (.tup (ss.map D.int)) cs P := .inr ⟨s, ss, rfl, .inl rfl, h⟩
theorem r_niLI (h : P (.bl (!decide (s ∈ ss))) cs) : oNotIn (.int s) (.lst (ss.map D.int)) cs P := .inr ⟨s, ss, rfl, .inr rfl, h⟩
theorem r_niTI (h : P (.bl (!decide (s ∈ ss))) cs) : oNotIn (.int s) (.tup (ss.map D.int)) cs P := .inr ⟨s, ss, rfl, .inl rfl, h⟩
theorem r_inLS (h : P (.bl (decide (x ∈ xs))) cs) : oIn (.str x) (.lst (xs.map D.str)) cs P := .inl ⟨x, xs, rfl, .inr rfl, h⟩
theorem r_niLS (h : P (.bl (!decide (x ∈ xs))) cs) : oNotIn (.str x) (.lst (xs.map D.str)) cs P := .inl ⟨x, xs, rfl, .inr rfl, h⟩
end
def r6 : Rat := ⟨1, 1000000, by decide, by decide⟩
theorem atD_last {α : Type} {g : α → D} {l : List α} {x : α} (h : l[l.length - 1]? = some x) (hl : 1 ≤ l.length) : atD (l.map g) (-1) = some (g x) := by
  have e : ixN (l.map g).length (-1) = some (l.length - 1) := by
    unfold ixN
    rw [List.length_map, if_neg (by decide), if_pos (by omega)]
    congr 1
    omega
  unfold atD L2.atI
  rw [e]
  show (l.map g)[l.length - 1]? = _
  rw [List.getElem?_map, h]; rfl
end DL
namespace DL
open PySem PySem.Spec PyProof.Rows L2
section
variable {X : Cx} {W : WX} {K : PySem.W.Frag} {σ : L2.St} {H : Hp} {a b e : Expr} {wa wb we : DL.WE} {pos : Pos}
/-- tuples of ints -/
def tupI (k : List Int) : D := .tup (k.map D.int)
def wLenSet (we : DL.WE) : DL.WE := fun ρ cs P Z => we ρ cs (fun d cs1 => ∃ ks : List (List Int), lstOf cs1 d = some (ks.map tupI) ∧ ks.length < 64 ∧ ∀ m : Nat, (ks.Nodup → m = ks.length) → (¬ ks.Nodup → m < ks.length) → P (.int (m : Int)) cs1) Z
theorem nodup_le {α : Type} [DecidableEq α] : ∀ {l m : List α}, l.Nodup → (∀ x ∈ l, x ∈ m) → l.length ≤ m.length
  | [], m, _, _ => Nat.zero_le _
  | x :: l, m, nd, h => by
    obtain ⟨n1, n2⟩ := List.nodup_cons.mp nd
    have hx := h x (List.mem_cons_self ..)
    have := nodup_le (m := m.erase x) n2 fun y hy => (List.mem_erase_of_ne (fun z => n1 (by rw [← z]; exact hy))).mpr (h y (List.mem_cons_of_mem _ hy))
    rw [List.length_erase_of_mem hx] at this
    have := List.length_pos_of_mem hx
    rw [List.length_cons]; omega
end
section
variable {ρ : DL.Env} {cs : Cs} {P : DP} {Z : XZ} {we : DL.WE} {xs : List D} {d : D} {p : Addr}
theorem r_lenSet (h : we ρ cs (fun d cs1 => ∃ ks : List (List Int), lstOf cs1 d = some (ks.map tupI) ∧ ks.length < 64 ∧ ∀ m : Nat, (ks.Nodup → m = ks.length) → (¬ ks.Nodup → m < ks.length) → P (.int (m : Int)) cs1) Z) : wLenSet we ρ cs P Z := h
end
end DL
namespace DL
open PySem PySem.Spec PyProof.Rows L2
/-- rows from f to n, each let by R -/
inductive LWay (R : Nat → Nat → Prop) (n : Nat) : Nat → List Nat → Prop
  | nil : LWay R n n []
  | cons {f z : Nat} {zs : List Nat} : 1 ≤ z → f + z ≤ n → R f (f + z) → LWay R n (f + z) zs → LWay R n f (z :: zs)
/-- their cost -/
def wc (c : Nat → Nat → Int) : Nat → List Nat → Int
  | _, [] => 0
  | f, z :: zs => c f (f + z) + wc c (f + z) zs
/-- k is the least cost -/
structure IsC (R : Nat → Nat → Prop) (c : Nat → Nat → Int) (n f : Nat) (k : Int) : Prop where
  is : ∃ zs, LWay R n f zs ∧ wc c f zs = k
  le : ∀ zs, LWay R n f zs → k ≤ wc c f zs
section
variable {R : Nat → Nat → Prop} {c : Nat → Nat → Int} {n f : Nat} {k l : Int} {zs : List Nat}
theorem LWay.way (h : LWay R n f zs) : Way n f zs := by
  induction h with
  | nil => exact .nil
  | cons h1 h2 _ _ ih => exact .cons h1 h2 ih
theorem LWay.end_ (h : LWay R n n zs) : zs = [] := h.way.end_
theorem IsC.uniq (h : IsC R c n f k) (h' : IsC R c n f l) : k = l := by
  obtain ⟨zs, w, e⟩ := h.is
  obtain ⟨zs', w', e'⟩ := h'.is
  have h1 := h.le zs' w'
  have h2 := h'.le zs w
  omega
theorem IsC.end_ : IsC R c n n 0 := ⟨⟨[], .nil, rfl⟩, fun zs h => by rw [h.end_]; exact Int.le_refl _⟩
end
structure KOk (ks : List (Int × Int)) (n : Nat) : Prop where
  in_ : ∀ p ∈ ks, 0 ≤ p.1 ∧ 1 ≤ p.2 ∧ p.1 + p.2 ≤ n
  nd : ks.Nodup
  len : ks.length < 64
theorem KOk.sub {ks ls : List (Int × Int)} {n : Nat} (h : KOk ks n) (p : ls.Sublist ks) : KOk ls n := ⟨fun x hx => h.in_ x (p.subset hx), p.nodup h.nd, Nat.lt_of_le_of_lt p.length_le h.len⟩
section
variable {sh : Nat → Nat → Rat} {n : Nat} {r r' : Rat} {ks ls : List (Int × Int)} {f : Nat} {zs : List Nat}
theorem LWay.imp {R R' : Nat → Nat → Prop} (h : LWay R n f zs) (hi : ∀ a e, R a e → R' a e) : LWay R' n f zs := by
  induction h with
  | nil => exact .nil
  | cons h1 h2 h3 _ ih => exact .cons h1 h2 (hi _ _ h3) ih
theorem Way.len {ys : List Nat} (h : Way n f ys) : f + ys.length ≤ n := by
  induction h with
  | nil => exact Nat.le_refl _
  | cons h1 h2 _ ih => rw [List.length_cons]; omega
end
def sGoneA (u : WS) : WS := fun f ρ cs => u { f with nx := fun ρ' cs' => ∃ p m, look p cs' = some m ∧ f.nx ρ' (del p cs') } ρ cs
theorem ds_goneA {X : Cx} {W : WX} {st : Stmt} {u : WS} (h : DS X W st u) : DS X W st (sGoneA u) := PS.imp h fun E σ H hq => by
  obtain ⟨F, cs, ρ, f, s, re, hw, pe⟩ := hq
  refine ⟨F, cs, ρ, _, s, re, hw, ⟨fun H1 cs1 σ1 ρ1 s1 re1 h1 => ?_, pe.bk, pe.ct, pe.rt, pe.ex⟩⟩
  obtain ⟨p, m, hl, h2⟩ := h1
  obtain ⟨s2, g2, _⟩ := s1.frz hl
  exact pe.nx H1 _ σ1 ρ1 s2 (re1.mono g2) h2
section
variable {ρ : DL.Env} {cs : Cs} {u : WS} {nx bk ct : DL.Env → Cs → Prop} {rt : D → Cs → Prop} {ex : Exn → DL.Env → Cs → Prop}
theorem q_goneA (h : u ⟨fun ρ' cs' => ∃ p m, look p cs' = some m ∧ nx ρ' (del p cs'), rt, ex, bk, ct⟩ ρ cs) : sGoneA u ⟨nx, rt, ex, bk, ct⟩ ρ cs := h
theorem r_goneEx {p : Addr} {m : MO} (h : nx ρ cs) : ∃ q m', look q ((p, m) :: cs) = some m' ∧ nx ρ (del q ((p, m) :: cs)) := ⟨p, m, look_hd, by rw [del_hd]; exact h⟩
end
theorem look_2 {p q : Addr} {x y : MO} {cs : Cs} (h : p ≠ q) : look q ((p, x) :: (q, y) :: cs) = some y := by
  simp [look, h]
section
variable {R : Nat → Nat → Prop} {c : Nat → Nat → Int} {f e g : Nat} {k : Int} {zs : List Nat}
theorem LWay.snoc (h : LWay R f g zs) (h1 : f < e) (hr : R f e) : LWay R e g (zs ++ [e - f]) ∧ wc c g (zs ++ [e - f]) = wc c g zs + c f e := by
  induction h with
  | nil =>
    have e1 : f + (e - f) = e := by omega
    refine ⟨.cons (by omega) (by omega) (by rw [e1]; exact hr) (by rw [e1]; exact .nil), ?_⟩
    rw [List.nil_append, wc, wc, wc, e1]; omega
  | @cons g z zs z1 z2 z3 w ih =>
    obtain ⟨i1, i2⟩ := ih
    refine ⟨.cons z1 (by omega) z3 i1, ?_⟩
    rw [List.cons_append, wc, wc, i2]; omega
end
end DL
namespace DL
open PySem PySem.Spec PyProof.Rows L2
section
variable {X : Cx} {W : WX} {K : PySem.W.Frag} {e : Expr} {td : TE} {we : DL.WE} {apos cpos : Pos}
theorem RG.len {κ : Type} {G : Hp} {xs : List (κ × V)} {ds : List (κ × D)} (h : RG K G xs ds) : xs.length = ds.length := by
  induction h with
  | nil => rfl
  | cons _ _ ih => rw [List.length_cons, List.length_cons, ih]
def iItT (we : DL.WE) : WI := fun ρ cs P Z => we ρ cs (fun d cs1 => match d with
  | .dct kvs => P (kvs.map fun p => D.tup [D.tup (p.1.map kD), p.2]) cs1
  | _ => False) Z
def iItK (we : DL.WE) : WI := fun ρ cs P Z => we ρ cs (fun d cs1 => match d with
  | .dic kvs => P (kvs.map fun p => D.tup [kD p.1, p.2]) cs1
  | _ => False) Z
theorem r_itT {ρ : DL.Env} {cs : Cs} {R : List D → Cs → Prop} {Z : XZ} (h : we ρ cs (fun d cs1 => match d with
  | .dct kvs => R (kvs.map fun p => D.tup [D.tup (p.1.map kD), p.2]) cs1
  | _ => False) Z) : iItT we ρ cs R Z := h
theorem r_itK {ρ : DL.Env} {cs : Cs} {R : List D → Cs → Prop} {Z : XZ} (h : we ρ cs (fun d cs1 => match d with
  | .dic kvs => R (kvs.map fun p => D.tup [kD p.1, p.2]) cs1
  | _ => False) Z) : iItK we ρ cs R Z := h
end
section
variable {X : Cx} {W : WX} {K : PySem.W.Frag} {a b : Expr} {rest : List Expr} {pos : Pos} {wa wb : DL.WE}
def truD : D → Option Bool
  | .non => some false
  | .bl k => some k
  | .int i => some (i != 0)
  | .str x => if x.length ≤ 1000 then some ((x.length : Int) != 0) else none
  | .lst xs => some (!xs.isEmpty)
  | .tup xs => some (!xs.isEmpty)
  | _ => none
def wOrT (wa wb : DL.WE) : DL.WE := fun ρ cs P Z => wa ρ cs (fun x cs1 => ∃ k, truD x = some k ∧ (k = true → P x cs1) ∧ (k = false → wb ρ cs1 P Z)) Z
theorem r_orT {ρ : DL.Env} {cs : Cs} {P : DP} {Z : XZ} (h : wa ρ cs (fun x cs1 => ∃ k, truD x = some k ∧ (k = true → P x cs1) ∧ (k = false → wb ρ cs1 P Z)) Z) : wOrT wa wb ρ cs P Z := h
end
def sFrzA (i : Nat) (u : WS) : WS := fun f ρ cs => u { f with nx := fun ρ' cs' => ∃ p xs, ρ'[i]? = some (some (.opq (.ref p))) ∧ look p cs' = some (.lst xs) ∧ f.nx (ρ'.set i (some (.lst xs))) (del p cs') } ρ cs
theorem set_same {α : Type} : ∀ {l : List α} {i : Nat} {x : α}, l[i]? = some x → l.set i x = l
  | [], _, _, e => by cases e
  | _ :: _, 0, _, e => by cases e; rfl
  | a :: l, i + 1, x, e => by rw [List.set_cons_succ, set_same (l := l) (i := i) e]
theorem ds_frzA {X : Cx} {W : WX} {st : Stmt} {u : WS} (i : Nat) (h : DS X W st u) : DS X W st (sFrzA i u) := PS.imp h fun E σ H hq => by
  obtain ⟨F, cs, ρ, f, s, re, hw, pe⟩ := hq
  refine ⟨F, cs, ρ, _, s, re, hw, ⟨fun H1 cs1 σ1 ρ1 s1 re1 h1 => ?_, pe.bk, pe.ct, pe.rt, pe.ex⟩⟩
  obtain ⟨p, xs, hi, hl, h2⟩ := h1
  obtain ⟨v, hv, rv⟩ := re1.get hi
  cases rv
  obtain ⟨s2, g2, o, ho, m⟩ := s1.frz hl
  cases o <;> try exact m.elim
  have re2 := (re1.mono g2).set (Rep.lst (SqL.of ho) m) i
  rw [set_same hv] at re2
  exact pe.nx H1 _ σ1 _ s2 re2 h2
theorem q_frzA {i : Nat} {ρ : DL.Env} {cs : Cs} {u : WS} {nx bk ct : DL.Env → Cs → Prop} {rt : D → Cs → Prop} {ex : Exn → DL.Env → Cs → Prop} (h : u ⟨fun ρ' cs' => ∃ p xs, ρ'[i]? = some (some (.opq (.ref p))) ∧ look p cs' = some (.lst xs) ∧ nx (ρ'.set i (some (.lst xs))) (del p cs'), rt, ex, bk, ct⟩ ρ cs) : sFrzA i u ⟨nx, rt, ex, bk, ct⟩ ρ cs := h
end DL
namespace DL
open PySem PySem.Spec PyProof.Rows L2 PySem.Calls PySem.W
section
variable {prog : Program} {w : World} {A : Around} {E : Value → Shared → Prop} {s : Shared}
theorem min_list_ix {l : Addr} {vs : Array Value} {xs : List PyData} {as : List Addr} {Q : Value → Shared → Prop} (hh : A.handled = none) (hl : s.heap.IsList l vs) (hr : ReadsAll s.heap vs.toList xs as) (h0 : 0 < xs.length) (ha : AlikeAll xs) (hu : A.units + 1 + PyData.depthAll xs < cLine)
    (h : ∀ v h' tk, vs[argBest (fun i j => dataLt (xs.getD i .none) (xs.getD j .none)) (xs.length - 1)]? = some v → (∀ b o, s.heap.get? b = some o → h'.get? b = some o) → Q v { s with heap := h', toks := tk }) :
    wpAny (model prog w) A (call (.builtin "min") [.ref l]) Q E s := by
  have hn : vs.size = xs.length := readsAll_len hr
  refine call_min_walkH (iter_listW (A := A.in1) hh hl fun s₂ e W st hfp hw hk => ?_)
  refine ⟨_, _, _, _, _, _, _, s.heap, _, rfl, W, st, hfp, by omega, hw, hk, cmpIn_lt (A := A.in1) hr ha (by show A.units + 1 + _ < _; exact hu), fun v s' hP m => ?_⟩
  obtain ⟨h', tk, rfl, hk'⟩ := moved_old e rfl m
  exact h v h' tk (by rw [← hn]; exact hP) hk'
end
theorem argBest_congr {f g : Nat → Nat → Bool} : ∀ (k : Nat), (∀ i j, i ≤ k → j ≤ k → f i j = g i j) → argBest f k = argBest g k ∧ argBest g k ≤ k
  | 0, _ => ⟨rfl, Nat.le_refl _⟩
  | k + 1, h => by
    obtain ⟨e1, e2⟩ := argBest_congr k fun i j hi hj => h i j (by omega) (by omega)
    unfold argBest
    rw [e1, h (k + 1) (argBest g k) (Nat.le_refl _) (by omega)]
    refine ⟨rfl, ?_⟩
    split <;> omega
theorem argBest_key (key : Nat → Int) : ∀ (k : Nat), ∀ j, j ≤ k → key (argBest (fun i j => decide (key i < key j)) k) ≤ key j
  | 0, j, h => by rw [show j = 0 by omega]; exact Int.le_refl _
  | k + 1, j, h => by
    have ih := argBest_key key k
    unfold argBest
    by_cases q : key (k + 1) < key (argBest (fun i j => decide (key i < key j)) k)
    · rw [if_pos (decide_eq_true q)]
      by_cases e : j = k + 1
      · rw [e]; exact Int.le_refl _
      · have := ih j (by omega)
        omega
    · rw [if_neg (by simpa using q)]
      by_cases e : j = k + 1
      · rw [e]; omega
      · exact ih j (by omega)
section
variable {X : Cx}
def rMinD (K : PySem.W.Frag) : List V → Hp → VK → Prop := fun vs H Q => ∃ (a : Addr) (ws : List V) (xs : List PyData) (key : Nat → Int), vs = [V.ref a] ∧ SqL K H a ws ∧ DpAll K H ws xs ∧ 0 < xs.length ∧ AlikeAll xs ∧ PyData.depthAll xs ≤ 32 ∧
  (∀ i j, i < xs.length → j < xs.length → dataLt (xs.getD i .none) (xs.getD j .none) = decide (key i < key j)) ∧ ∀ i v, i < xs.length → ws[i]? = some v → (∀ j, j < xs.length → key i ≤ key j) → Q v H
theorem cr_minD (hc : X.calm = true) (hu : X.A.units + 64 < cLine) : CallR X (.builtin "min") (rMinD X.K) := by
  intro pins s σ H vs us Q I r h
  obtain ⟨a, ws, xs, key, rfl, hs, hd, h0, al, dp, hk, q⟩ := h
  obtain ⟨its, rv, hl, _⟩ := I.list hs
  obtain ⟨as, hr⟩ := Dp.readsAll I xs ws its hd rv
  rw [Vals.ref1 r]
  have hl2 : its.length = xs.length := by simpa using readsAll_len (vs := its.toArray) (by simpa using hr)
  refine min_list_ix (I.ok.hd hc) hl.isList (by simpa using hr) h0 al (by omega) fun v h' tk hv hk' => ?_
  obtain ⟨e1, e2⟩ := argBest_congr (xs.length - 1) (f := fun i j => dataLt (xs.getD i .none) (xs.getD j .none)) (g := fun i j => decide (key i < key j)) fun i j hi hj => hk i j (by omega) (by omega)
  rw [e1] at hv
  generalize hm : argBest (fun i j => decide (key i < key j)) (xs.length - 1) = m at hv e2
  have hlw : ws.length = xs.length := by rw [rv.length]; exact hl2
  have hw : ws[m]? = some (ws[m]'(by omega)) := List.getElem?_eq_getElem (by omega)
  have hv' : its[m]? = some v := by simpa using hv
  have rw_ : L2.RelV (ws[m]'(by omega)) v := by
    obtain ⟨u, hu, ru⟩ := rv.get hw
    rw [hv'] at hu
    cases hu
    exact ru
  exact ⟨_, H, I.kept hk', rw_, q m _ (by omega) hw fun j hj => by rw [← hm]; exact argBest_key key _ j (by omega)⟩
end
section
variable {K : PySem.W.Frag}
def oMinD : DOn := fun ds cs P => ∃ (d : D) (xs : List D) (key : Nat → Int), ds = [d] ∧ lstOf cs d = some xs ∧ 0 < xs.length ∧ plL 20 xs = true ∧ AlikeAll (pyL xs) ∧
  (∀ i j x y, xs[i]? = some x → xs[j]? = some y → dataLt (pyD x) (pyD y) = decide (key i < key j)) ∧ ∀ i x, xs[i]? = some x → (∀ j, j < xs.length → key i ≤ key j) → P x cs
theorem pyL_len : ∀ xs : List D, (pyL xs).length = xs.length
  | [] => rfl
  | _ :: xs => congrArg Nat.succ (pyL_len xs)
theorem pyL_get : ∀ {xs : List D} {i : Nat} {x : D}, xs[i]? = some x → (pyL xs)[i]? = some (pyD x)
  | _ :: _, 0, _, h => by simp at h; subst h; rfl
  | _ :: xs, i + 1, _, h => by
    have := pyL_get (xs := xs) (i := i) (by simpa using h)
    simpa [pyL] using this
theorem adq_minD : AdqN K (rMinD K) oMinD := fun F cs H xs ds P Q s r ho pe => by
  obtain ⟨d, ys, key, rfl, hl, h0, hp, ha, hk, h⟩ := ho
  cases r with
  | cons r1 r2 =>
  cases r2
  obtain ⟨p, vs, rfl, h1, h2⟩ := lstOf_sq s r1 hl
  have gd : ∀ i, i < (pyL ys).length → ∃ y, ys[i]? = some y ∧ (pyL ys).getD i .none = pyD y := fun i hi => by
    rw [pyL_len] at hi
    have e : ys[i]? = some (ys[i]'hi) := List.getElem?_eq_getElem hi
    refine ⟨_, e, ?_⟩
    rw [List.getD_eq_getElem?_getD, pyL_get e]; rfl
  refine ⟨p, vs, pyL ys, key, rfl, h1, RepL.dp pur_le 20 h2 hp, by rw [pyL_len]; exact h0, ha, Nat.le_trans (plL_plain ys 20 hp).2 (by decide), fun i j hi hj => ?_, fun i v hi hv hm => ?_⟩
  · obtain ⟨x, e1, g1⟩ := gd i hi
    obtain ⟨y, e2, g2⟩ := gd j hj
    rw [g1, g2]
    exact hk i j x y e1 e2
  · obtain ⟨x, e1, g1⟩ := gd i hi
    obtain ⟨v', hv', rv⟩ := h2.get e1
    rw [hv] at hv'
    cases hv'
    exact pe H cs _ _ s rv (h i x e1 fun j hj => hm j (by rw [pyL_len]; exact hj))
end
section
variable {X : Cx}
inductive Ws (R : V → List Int → Prop) : List V → List (List Int) → Prop
  | nil : Ws R [] []
  | cons {v : V} {z : List Int} {vs : List V} {zs : List (List Int)} : R v z → Ws R vs zs → Ws R (v :: vs) (z :: zs)
theorem Ws.back {R : V → List Int → Prop} : ∀ {zs : List (List Int)} {us : List Value}, PySem.W.EachIs (fun u z => ∃ w, R w z ∧ L2.RelV w u) us zs → ∃ ws, Ws R ws zs ∧ Vals ws us
  | _, _, .nil => ⟨[], .nil, .nil⟩
  | _, _, .cons ⟨w, h, r⟩ hs => by
    obtain ⟨ws, h1, h2⟩ := Ws.back hs
    exact ⟨w :: ws, .cons h h1, .cons r h2⟩
theorem Ws.len {R : V → List Int → Prop} : ∀ {ws : List V} {zs : List (List Int)}, Ws R ws zs → ws.length = zs.length
  | _, _, .nil => rfl
  | _, _, .cons _ h => congrArg Nat.succ h.len
end
theorem r_neNilD {xs : List D} {cs : Cs} {P : DP} (hp : plD 20 (.lst xs) = true) (h : P (.bl (!xs.isEmpty)) cs) : oNe (.lst xs) (.lst []) cs P := ⟨hp, rfl, by
  have e : eqD (.lst xs) (.lst []) = xs.isEmpty := by
    cases xs <;> simp [eqD, eqL]
  rw [e]; exact h⟩
end DL
namespace DL
open PySem PySem.Spec PyProof.Rows L2
/-- all sizes of n things -/
def AllZ (n : Nat) (L : List (List Int)) : Prop := (∀ z, z ∈ L ↔ SzOk z n) ∧ L.Pairwise (· ≤ ·)
/-- the chief behind i of them -/
def ChZ (w : List Int → Rat) (L : List (List Int)) (i j : Nat) (z : List Int) : Prop := j < i ∧ L[j]? = some z ∧ (∀ k y, k < i → L[k]? = some y → w z ≤ w y) ∧ ∀ k y, k < j → L[k]? = some y → w z < w y
theorem chZ_first {w : List Int → Rat} {L : List (List Int)} {i : Nat} {z : List Int} (h : L[i]? = some z) (hn : ∀ k y, k < i → L[k]? = some y → w z < w y) : ChZ w L (i + 1) i z :=
  ⟨by omega, h, fun k y hk hy => by
    by_cases e : k = i
    · rw [e, h] at hy; cases hy; exact Rat.le_refl
    · exact Rat.le_of_lt (hn k y (by omega) hy), hn⟩
theorem ChZ.keep {w : List Int → Rat} {L : List (List Int)} {i j : Nat} {z y : List Int} (h : ChZ w L i j z) (hy : L[i]? = some y) (hl : ¬ w y < w z) : ChZ w L (i + 1) j z := by
  obtain ⟨a1, a2, a3, a4⟩ := h
  refine ⟨by omega, a2, fun k x hk hx => ?_, a4⟩
  by_cases e : k = i
  · rw [e, hy] at hx; cases hx; exact Rat.not_lt.mp hl
  · exact a3 k x (by omega) hx
theorem ChZ.new {w : List Int → Rat} {L : List (List Int)} {i j : Nat} {z y : List Int} (h : ChZ w L i j z) (hy : L[i]? = some y) (hl : w y < w z) : ChZ w L (i + 1) i y := by
  obtain ⟨a1, a2, a3, a4⟩ := h
  exact chZ_first hy fun k x hk hx => Std.lt_of_lt_of_le hl (a3 k x hk hx)
theorem AllZ.ne {n : Nat} {L : List (List Int)} (h : AllZ n L) : 0 < L.length := by
  have := (h.1 (natI (List.replicate n 1))).mpr (way_szok (way_ones n 0 (by omega)))
  exact List.length_pos_of_mem this
/-- the chief among those that are let, behind i of them -/
def ChP (ok : List Int → Prop) (c : List Int → Int) (L : List (List Int)) (i j : Nat) (z : List Int) : Prop := j < i ∧ L[j]? = some z ∧ ok z ∧ (∀ k y, k < i → L[k]? = some y → ok y → c z ≤ c y) ∧ ∀ k y, k < j → L[k]? = some y → ok y → c z < c y
section
variable {ok : List Int → Prop} {c : List Int → Int} {L : List (List Int)} {i j : Nat} {z y : List Int}
theorem chP_first (h : L[i]? = some z) (hz : ok z) (hn : ∀ k y, k < i → L[k]? = some y → ok y → c z < c y) : ChP ok c L (i + 1) i z :=
  ⟨by omega, h, hz, fun k y hk hy ho => by
    by_cases e : k = i
    · rw [e, h] at hy; cases hy; exact Int.le_refl _
    · exact Int.le_of_lt (hn k y (by omega) hy ho), hn⟩
theorem ChP.keep (h : ChP ok c L i j z) (hy : L[i]? = some y) (hl : ok y → ¬ c y < c z) : ChP ok c L (i + 1) j z := by
  obtain ⟨a1, a2, a3, a4, a5⟩ := h
  refine ⟨by omega, a2, a3, fun k x hk hx ho => ?_, a5⟩
  by_cases e : k = i
  · rw [e, hy] at hx; cases hx; have := hl ho; omega
  · exact a4 k x (by omega) hx ho
theorem ChP.new (h : ChP ok c L i j z) (hy : L[i]? = some y) (ho : ok y) (hl : c y < c z) : ChP ok c L (i + 1) i y := by
  obtain ⟨a1, a2, a3, a4, a5⟩ := h
  exact chP_first hy ho fun k x hk hx ho => by have := a4 k x hk hx ho; omega
end
end DL
namespace DL
open PySem PySem.Spec PyProof.Rows L2
theorem XB.row (K : PySem.W.Frag) : ∀ b : XB, PySem.W.findCls K (.type b.nm) (.type "type") "__init__" = some (.val (.builtin b.ini))
  | .v => by kernel_rfl
  | .l => by kernel_rfl
  | .i => by kernel_rfl
end DL
namespace DL
open PySem PySem.Spec PyProof.Rows L2 ClX
def sRaise (n : Str) (g : List D → List (Str × D)) (w : WA) : WS := fun f ρ cs => w ρ cs (fun ds cs1 => f.ex ⟨n, g ds⟩ ρ cs1) (fun x cs1 => f.ex x ρ cs1)
end DL
namespace DL
open PySem PySem.Spec PyProof.Rows L2 LamX
/-- what a table tells: each code object bears the name q -/
def TabT (H : Hp) (ps : Array Value) (q : Str) : Prop := TriplesOk ps.toList ∧ ∀ (pos : Pos) (cv : Value), codeAmong pos ps.toList = some cv → ∃ c, cv = .ref c ∧ H c = some (CodeO c q)
end DL
namespace DL
open PySem PySem.Spec PyProof.Rows L2 LamX
def wLam (p : Addr) (q : Str) (T : DL.WE → DL.WE) (we : DL.WE) : DL.WE := fun ρ cs P Z => look p cs = some (.tbl q) ∧ T we ρ cs P Z
theorem TabT.le {H H' : Hp} {ps : Array Value} {q : Str} (t : TabT H ps q) (e : Ex H H') : TabT H' ps q := ⟨t.1, fun pos cv hc => by
  obtain ⟨c, e1, e2⟩ := t.2 pos cv hc
  exact ⟨c, e1, e _ _ e2⟩⟩
def tAskD (L : List Str) (we : DL.WE) : DL.WE := fun ρ cs P Z => we ρ cs (fun d cs1 => P (.tup [d, .str ""]) cs1) (fun x cs1 => x.cls ∈ L ∧ ∃ y, x.fs.lookup ("called" : Str) = some y ∧ P (.tup [.non, y]) cs1)
def tWhyD (L : List Str) (we : DL.WE) : DL.WE := fun ρ cs P Z => we ρ cs (fun d cs1 => P (.str "") cs1) (fun x cs1 => x.cls ∈ L ∧ ∃ y, x.fs.lookup ("called" : Str) = some y ∧ P y cs1)
theorem r_lam {p : Addr} {q : Str} {T : DL.WE → DL.WE} {we : DL.WE} {ρ : DL.Env} {cs : Cs} {P : DP} {Z : XZ} (hl : look p cs = some (.tbl q)) (h : T we ρ cs P Z) : wLam p q T we ρ cs P Z := ⟨hl, h⟩
end DL
namespace DL
open PySem PySem.Spec PyProof.Rows L2 LamX ClX
def exn (n : Str) : Exn := ⟨n, [("called", .str n)]⟩
def g0 (n : Str) : List D → List (Str × D) := fun _ => [("called", .str n)]
/-- an exception with a field -/
def exnF (n fl : Str) (d : D) : Exn := ⟨n, [(fl, d), ("called", .str n)]⟩
def g1 (n fl : Str) : List D → List (Str × D) := fun ds => [(fl, ds.getD 0 .non), ("called", .str n)]
theorem r_raise1 {n fl : Str} {we : DL.WE} {f : Fin} {ρ : DL.Env} {cs : Cs} (h : we ρ cs (fun d cs1 => f.ex (exnF n fl d) ρ cs1) (fun x cs1 => f.ex x ρ cs1)) : sRaise n (fun ds => g1 n fl (ds ++ [])) (wCons we wNil) f ρ cs := h
theorem r_raiseD {n fl : Str} {i : Int} {f : Fin} {ρ : DL.Env} {cs : Cs} (h : f.ex (exnF n fl (.int i)) ρ cs) : sRaise n (fun ds => g1 n fl (ds ++ [.int i])) wNil f ρ cs := h
theorem r_raise {n : Str} {f : Fin} {ρ : DL.Env} {cs : Cs} (h : f.ex (exn n) ρ cs) : sRaise n (fun ds => g0 n (ds ++ [])) wNil f ρ cs := h
def sp_lawT (tb : Cs) : DSp := fun ds cs P _ => ∃ ns : List Int, ds = [.lst (ns.map D.int)] ∧ ns.length ≤ 63 ∧ cs = tb ∧ ∀ cs', P (.bl true) cs'
def tbls (ts : List (Addr × Str)) : Cs := ts.map fun p => (p.1, .tbl p.2)
theorem law_startT {K : PySem.W.Frag} {H : Hp} {a : Addr} {ns : List Int} {ts : List (Addr × Str)} (nd : (ts.map (·.1)).Nodup) (hT : ∀ p ∈ ts, H p.1 = some (.tbl #[])) (hl : ns.length ≤ 63) (hS : SqL K H a (ns.map V.int)) :
    (fun (vs : List V) (H : Hp) (Q : VK) (_ : XK) => spL K 1 (sp_lawT (tbls ts)) vs H Q fun _ _ _ => False) [.ref a] H (fun v _ => v = .bl true) (fun _ _ _ => False) := by
  have ea : adr (tbls ts) = ts.map (·.1) := by unfold adr tbls; rw [List.map_map]; rfl
  refine ⟨fun _ => none, tbls ts, [.lst (ns.map D.int)], fun d _ => d = .bl true, fun _ _ => False, ⟨fun _ _ h => (nomatch h), Ex.refl _, ea ▸ nd, fun _ _ => rfl, fun b m hm => ?_, fun _ _ h => (nomatch h)⟩, ?_, rfl, ⟨ns, rfl, hl, rfl, fun _ => rfl⟩, ?_, fun _ _ _ _ _ _ h => h⟩
  · obtain ⟨p, hp, e⟩ := List.mem_map.mp hm
    cases e
    refine ⟨_, hT p hp, ⟨True.intro, fun pos cv hc => ?_⟩⟩
    have z : codeAmong pos [] = some cv := hc
    simp [codeAmong] at z
  · have hna : ∀ u : HO, (∀ ps, u ≠ .tbl ps) → H a = some u → pur (fun _ => none) (tbls ts) H a = some u := fun u hu e => by
      rw [pur_at rfl, e]
      rw [ea]
      intro z
      obtain ⟨p, hp, e2⟩ := List.mem_map.mp z
      have e3 : p.1 = a := e2
      rw [← e3, hT p hp] at e
      exact hu _ (Option.some.inj e).symm
    refine .cons (.lst ?_ (RepL.ofInts ns)) .nil
    rcases hS with (h | ⟨o, h⟩) | h
    · exact .inl (.inl (hna _ (fun ps z => by cases z) h))
    · exact .inl (.inr ⟨o, hna _ (fun ps z => by cases z) h⟩)
    · exact .inr h
  · intro H' cs' v d s r e
    subst e
    cases r
    rfl
end DL
namespace DL
open PySem PySem.Spec PyProof.Rows L2 LamX
theorem fd_same {K : PySem.W.Frag} {f : Addr} {x x' qual qual' : Str} {params params' : Arguments} {body body' : List Stmt} {scope scope' : Scope} {dvs dvs' : List V} {kws kws' : List (Str × V)} {fd fd' : FuncData} (F : FunD K x qual params body scope dvs kws f fd) (F' : FunD K x' qual' params' body' scope' dvs' kws' f fd') : fd = fd' := by
  obtain ⟨_, _, _, _, _, _, _, _, _, _, _, lk, _⟩ := F.ex
  obtain ⟨_, _, _, _, _, _, _, _, _, _, _, lk', _⟩ := F'.ex
  rw [lk] at lk'
  injection lk' with e
  injection e with _ _ e
  injection e
end DL
namespace DL
open PySem PySem.Spec PyProof.Rows L2
theorem look_cons_ne {p q : Addr} {cs : Cs} {b : MO} (h : q ≠ p) : look q ((p, b) :: cs) = look q cs := by
  show (if p = q then some b else look q cs) = look q cs
  rw [if_neg (fun z => h z.symm)]
theorem r_eqSs {cs : Cs} {P : DP} {x : Str} (h : P (.bl true) cs) : oEq (.str x) (.str x) cs P := ⟨rfl, rfl, by rw [show eqD (.str x) (.str x) = true from by simp [eqD]]; exact h⟩
theorem r_neSs {cs : Cs} {P : DP} {x : Str} (h : P (.bl false) cs) : oNe (.str x) (.str x) cs P := ⟨rfl, rfl, by rw [show eqD (.str x) (.str x) = true from by simp [eqD]]; exact h⟩
theorem tb_step {p q : Addr} {c c' : Cs} {m : MO} (a : BagStep p c c') (h : q ≠ p) (e : look q c = some m) : look q c' = some m := (a.look h).trans e
theorem tb_cons {p q : Addr} {c : Cs} {b m : MO} (h : q ≠ p) (e : look q c = some m) : look q ((p, b) :: c) = some m := (look_cons_ne h).trans e
theorem tb_put {p q : Addr} {c : Cs} {b m : MO} (h : q ≠ p) (e : look q c = some m) : look q (put p b c) = some m := (look_put_ne h).trans e
section
variable {L : List Str} {we : DL.WE} {ρ : DL.Env} {cs : Cs} {P : DP} {Z : XZ}
theorem r_ask (h : we ρ cs (fun d cs1 => P (.tup [d, .str ""]) cs1) (fun x cs1 => x.cls ∈ L ∧ ∃ y, x.fs.lookup ("called" : Str) = some y ∧ P (.tup [.non, y]) cs1)) : tAskD L we ρ cs P Z := h
theorem r_why (h : we ρ cs (fun d cs1 => P (.str "") cs1) (fun x cs1 => x.cls ∈ L ∧ ∃ y, x.fs.lookup ("called" : Str) = some y ∧ P y cs1)) : tWhyD L we ρ cs P Z := h
end
end DL
namespace DL
open PySem PySem.Spec PyProof.Rows L2 LamX
end DL
namespace DL
open PySem PySem.Spec PyProof.Rows L2
section
variable {X : Cx} {W : WX} {K : PySem.W.Frag} {b : Expr} {es : List Expr} {w : WA} {wb : DL.WE} {p1 pos : Pos}
def wLRep (w : WA) (wb : DL.WE) : DL.WE := fun ρ cs P Z => w ρ cs (fun ds cs1 => wb ρ cs1 (fun y cs2 => ∃ k : Nat, y = .int (k : Int) ∧ ds.length * k ≤ 100000 ∧ k ≤ 100000 ∧ P (.lst (List.replicate k ds).flatten) cs2) Z) Z
theorem r_lrep {ρ : DL.Env} {cs : Cs} {P : DP} {Z : XZ} (h : w ρ cs (fun ds cs1 => wb ρ cs1 (fun y cs2 => ∃ k : Nat, y = .int (k : Int) ∧ ds.length * k ≤ 100000 ∧ k ≤ 100000 ∧ P (.lst (List.replicate k ds).flatten) cs2) Z) Z) : wLRep w wb ρ cs P Z := h
theorem r_lrepE {ds : List D} {k : Nat} {P : DP} {cs : Cs} (h1 : ds.length * k ≤ 100000) (h2 : k ≤ 100000) (h : P (.lst (List.replicate k ds).flatten) cs) : ∃ k' : Nat, D.int (k : Int) = .int (k' : Int) ∧ ds.length * k' ≤ 100000 ∧ k' ≤ 100000 ∧ P (.lst (List.replicate k' ds).flatten) cs := ⟨k, rfl, h1, h2, h⟩
end
end DL
namespace DL
open PySem PySem.Spec PyProof.Rows L2
def pickL {α : Type} (is : List Nat) (xs : List α) : List α := is.filterMap fun i => xs[i]?
section
variable {X : Cx} {W : WX} {e : Expr} {es : List Expr} {w wk : WA} {x : Str} {p pos : Pos}
def wCallG (sp : DSp) (is : List Nat) (ms : List D) (w wk : WA) : DL.WE := fun ρ cs P Z => w ρ cs (fun ds cs1 => wk ρ cs1 (fun zs cs2 => sp (ds ++ pickL is (ms ++ zs)) cs2 P Z) Z) Z
variable {sp : DSp} {is : List Nat} {ms : List D} {ρ : DL.Env} {cs : Cs} {P : DP} {Z : XZ}
theorem r_callG (h : w ρ cs (fun ds cs1 => wk ρ cs1 (fun zs cs2 => sp (ds ++ pickL is (ms ++ zs)) cs2 P Z) Z) Z) : wCallG sp is ms w wk ρ cs P Z := h
theorem r_pk1 {ds xs : List D} {i : Nat} {a : D} (ha : xs[i]? = some a) (h : sp (ds ++ [a]) cs P Z) : sp (ds ++ pickL [i] xs) cs P Z := by
  unfold pickL
  simp only [List.filterMap_cons, ha, List.filterMap_nil]
  exact h
theorem r_pk2 {ds xs : List D} {i j : Nat} {a b : D} (ha : xs[i]? = some a) (hb : xs[j]? = some b) (h : sp (ds ++ [a, b]) cs P Z) : sp (ds ++ pickL [i, j] xs) cs P Z := by
  unfold pickL
  simp only [List.filterMap_cons, ha, hb, List.filterMap_nil]
  exact h
end
end DL
namespace DL
open PySem PySem.Spec PyProof.Rows L2
section
variable {X : Cx} {W : WX} {e b : Expr} {we wb : DL.WE} {lo hi : Option Expr} {wl wh : WO} {p1 p2 pos : Pos}
def wSlRep (we : DL.WE) (wl wh : WO) (wb : DL.WE) : DL.WE := fun ρ cs P Z => we ρ cs (fun x cs1 => wl ρ cs1 (fun l cs2 => wh ρ cs2 (fun u cs3 => match x with
  | .lst xs => wb ρ cs3 (fun y cs4 => ∃ k : Nat, y = .int (k : Int) ∧ (cutD xs l u).length * k ≤ 100000 ∧ k ≤ 100000 ∧ P (.lst (List.replicate k (cutD xs l u)).flatten) cs4) Z
  | _ => False) Z) Z) Z
theorem r_slrep {ρ : DL.Env} {cs : Cs} {P : DP} {Z : XZ} (h : we ρ cs (fun x cs1 => wl ρ cs1 (fun l cs2 => wh ρ cs2 (fun u cs3 => match x with
  | .lst xs => wb ρ cs3 (fun y cs4 => ∃ k : Nat, y = .int (k : Int) ∧ (cutD xs l u).length * k ≤ 100000 ∧ k ≤ 100000 ∧ P (.lst (List.replicate k (cutD xs l u)).flatten) cs4) Z
  | _ => False) Z) Z) Z) : wSlRep we wl wh wb ρ cs P Z := h
end
section
variable {b : Bx} {cs : Cs} {P : DP}
theorem r_slB {lo hi : Option Int} (h : P (.tup (DL.cutD [dR b.l, dR b.t, dR b.w, dR b.h] lo hi)) cs) : oSlT b.d lo hi cs P := h
theorem r_listB (h : P (.lst [dR b.l, dR b.t, dR b.w, dR b.h]) cs) : oList [b.d] cs P := h
theorem r_lenB (h : P (.int 4) cs) : oLen [b.d] cs P := h
theorem r_catB {xs : List D} (hl : xs.length ≤ 1000) (h : P (.tup ([dR b.l, dR b.t, dR b.w, dR b.h] ++ xs)) cs) : oCatT b.d (.tup xs) cs P := ⟨by show 4 + xs.length ≤ _; omega, h⟩
end
end DL
namespace DL
open PySem PySem.Spec PyProof.Rows L2
section
variable {X : Cx} {W : WX} {K : PySem.W.Frag} {σ : L2.St} {H : Hp} {a b e : Expr} {wa wb we : DL.WE} {pos : Pos}
/-- a global tuple of plain things -/
def dvD : He.Dv → D
  | .non => .non
  | .bl b => .bl b
  | .int i => .int i
  | .str x => .str x
  | _ => .non
theorem dv_rep {K : PySem.W.Frag} {G : Hp} : ∀ {vs : List He.Dv}, (vs.all fun v => match v with | .non | .bl _ | .int _ | .str _ => true | _ => false) = true → RepL K G (vs.map (He.Dv.v K)) (vs.map dvD)
  | [], _ => .nil
  | v :: vs, h => by
    simp only [List.all_cons, Bool.and_eq_true] at h
    refine .cons ?_ (dv_rep h.2)
    have h1 := h.1
    cases v <;> first | exact .non | exact .bl _ | exact .int _ | exact .str _ | cases h1
theorem d_gtup {x : Str} {vs : List He.Dv} (hg : Gl X x) (hm : X.mg x = some (.ref (He.ga X.K x))) (ht : He.tupB X.K x vs = true) (hv : (vs.all fun v => match v with | .non | .bl _ | .int _ | .str _ => true | _ => false) = true := by rfl) (hd : (x == ("__debug__" : Str)) = false := by decide) :
    DE X W (.Name x pos) (wC (.tup (vs.map dvD))) := by
  refine PE.imp (pe_glob (v := .ref (He.ga X.K x)) hg hm rfl hd) fun σ H Q hq => ?_
  obtain ⟨F, cs, ρ, P, Z, s, re, hw, pe, px⟩ := hq
  exact pe H cs _ _ s (.tup (He.tupB_ok ht _) (dv_rep hv)) hw
end
end DL
namespace DL
open PySem L2
inductive Tr where
  | lf
  | nd (dn : Bool) (a b : Tr)
def Tr.d : Tr → D
  | .lf => .tup []
  | .nd dn a b => .tup [sideD dn, a.d, b.d]
def Tr.n : Tr → Nat
  | .lf => 1
  | .nd _ a b => a.n + b.n
def twoW (ws : List Int) (k : Nat) : List Int := [(ws.take k).sum, (ws.drop k).sum]
def fstB (b : Bx) (ws : List Int) (k : Nat) (dn : Bool) : Bx := splitAt_ b (twoW ws k) dn 0
def sndB (b : Bx) (ws : List Int) (k : Nat) (dn : Bool) : Bx := splitAt_ b (twoW ws k) dn 1
theorem WtOk.take {ws : List Int} (h : WtOk ws) {k : Nat} (h0 : 1 ≤ k) (h1 : k < ws.length) : WtOk (ws.take k) := by
  have := h.l1
  refine ⟨by rw [List.length_take]; omega, by rw [List.length_take]; omega, fun w hw => h.rg w (List.mem_of_mem_take hw)⟩
theorem WtOk.drop {ws : List Int} (h : WtOk ws) {k : Nat} (h1 : k < ws.length) : WtOk (ws.drop k) := by
  have := h.l1
  refine ⟨by rw [List.length_drop]; omega, by rw [List.length_drop]; omega, fun w hw => h.rg w (List.mem_of_mem_drop hw)⟩
/-- sizes of a box that was split so often -/
structure Bx.Lv (b : Bx) (k : Nat) : Prop where
  l : DL.Sz (202 + 320 * k) b.l
  t : DL.Sz (202 + 320 * k) b.t
  w : DL.Sz (202 + 23 * k) b.w
  h : DL.Sz (202 + 23 * k) b.h
theorem Bx.Lv.sz {b : Bx} {k : Nat} (h : b.Lv k) (hk : k ≤ 5) : b.Sz 1900 := ⟨h.l.mono (by omega), h.t.mono (by omega), h.w.mono (by omega), h.h.mono (by omega)⟩
def tw : Tr → Bx → List Int → Rat
  | .lf, b, _ => shapeR b.w b.h
  | .nd dn x y, b, ws => mxR (tw x (fstB b ws x.n dn) (ws.take x.n)) (tw y (sndB b ws x.n dn) (ws.drop x.n))
/-- r is the least worst shape of all trees -/
structure LeastT (b : Bx) (ws : List Int) (r : Rat) : Prop where
  is : ∃ t : Tr, t.n = ws.length ∧ tw t b ws = r
  le : ∀ t : Tr, t.n = ws.length → r ≤ tw t b ws
theorem LeastT.uniq {b : Bx} {ws : List Int} {r s : Rat} (h : LeastT b ws r) (h' : LeastT b ws s) : r = s := by
  obtain ⟨t, e1, e2⟩ := h.is
  obtain ⟨u, e3, e4⟩ := h'.is
  exact Rat.le_antisymm (e4 ▸ h.le u e3) (e2 ▸ h'.le t e1)
/-- the least of the two sides, of all places -/
def spotL (n : Nat) : List (Bool × Nat) := (List.range (n - 1)).map (fun i => (true, i + 1)) ++ (List.range (n - 1)).map (fun i => (false, i + 1))
end DL
namespace DL
open PySem PySem.Spec PyProof.Rows L2
section
variable {X : Cx} {W : WX} {es : List Expr} {pos : Pos}
def gL (n : Nat) (gs : WGs) : WG := fun d ρ k => match d with
  | .lst ds => ds.length = n ∧ gs ds ρ k
  | _ => False
theorem r_gL {n : Nat} {gs : WGs} {ds : List D} {ρ : DL.Env} {k : DL.Env → Prop} (hl : ds.length = n) (h : gs ds ρ k) : gL n gs (.lst ds) ρ k := ⟨hl, h⟩
end
end DL
namespace DL
open PySem
open PySem.Sem (wp)
def sqH (t : Bool) (h : Heap) (l : Addr) (xs : Array Value) : Prop := match t with
  | true => h.IsTuple l xs
  | false => h.IsList l xs
def sqI (t : Bool) (h : Heap) (it l : Addr) (i : Nat) : Prop := match t with
  | true => h.IsTupleIter it l i
  | false => h.IsListIter it l i
def itC : Bool → String
  | true => "tuple_iterator"
  | false => "list_iterator"
theorem sqI_iff {t : Bool} {h : Heap} {it l : Addr} {i : Nat} : sqI t h it l i ↔ ∃ o, h.get? it = some o ∧ o.cls = .type (itC t) ∧ o.data = .fields #[.ref l, .int i 0] := by cases t <;> exact Iff.rfl
theorem sqH.ext {t : Bool} {h h' : Heap} {a b : Addr} {xs : Array Value} (x : sqH t h a xs) (hs : Heap.ExtBut b h h') (hab : a ≠ b) : sqH t h' a xs := by
  cases t
  · exact Heap.IsList.extBut x hs hab
  · exact Heap.IsTuple.extBut x hs hab
theorem sqH.push {t : Bool} {h : Heap} {a : Addr} {xs : Array Value} (x : sqH t h a xs) (o : Obj) : sqH t (h.push o) a xs := by
  cases t
  · exact Heap.IsList.push x o
  · exact Heap.IsTuple.push x o
theorem sqI.ext {t : Bool} {h h' : Heap} {a l b : Addr} {i : Nat} (x : sqI t h a l i) (hs : Heap.ExtBut b h h') (hab : a ≠ b) : sqI t h' a l i := by
  obtain ⟨o, e, c, d⟩ := sqI_iff.mp x
  exact sqI_iff.mpr ⟨o, hs a o hab e, c, d⟩
theorem sqI.at {t : Bool} {h h' : Heap} {a l : Addr} {i : Nat} (x : sqI t h a l i) (hk : ∀ o, h.get? a = some o → h'.get? a = some o) : sqI t h' a l i := by
  obtain ⟨o, e, c, d⟩ := sqI_iff.mp x
  exact sqI_iff.mpr ⟨o, hk o e, c, d⟩
section
open PySem.Spec PyProof.Rows L2
def SqB (K : PySem.W.Frag) (t : Bool) (H : Hp) (a : Addr) (xs : List V) : Prop := match t with
  | true => SqT K H a xs
  | false => SqL K H a xs
theorem SqB.is {X : Cx} {pins : List (Addr × Obj)} {σ : L2.St} {H : Hp} {s : Shared} {t : Bool} {a : Addr} {xs : List V} (I : Inv X pins σ H s) (h : SqB X.K t H a xs) : ∃ its : List Value, Vals xs its ∧ sqH t s.heap a its.toArray := by
  cases t
  · obtain ⟨its, r, p, _⟩ := I.list h
    exact ⟨its, r, p.isList⟩
  · obtain ⟨its, r, p, _⟩ := I.tuple h
    exact ⟨its, r, p⟩
theorem SqB.inj {X : Cx} {pins : List (Addr × Obj)} {σ : L2.St} {H : Hp} {s : Shared} {t : Bool} {a : Addr} {xs ys : List V} (I : Inv X pins σ H s) (h : SqB X.K t H a xs) (h' : SqB X.K t H a ys) : xs = ys := by
  cases t
  · exact I.list_inj h h'
  · exact I.tuple_inj h h'
end
section
open PySem.Spec PyProof.Rows L2
variable {X : Cx} {W : WX} {K : PySem.W.Frag}
/-- the items of a list or a tuple -/
def itemsD : D → Option (List D)
  | .lst xs => some xs
  | .tup xs => some xs
  | _ => none
def iZm (w : WA) : WI := fun ρ cs P Z => w ρ cs (fun ds cs1 => ∃ d e xs ys, ds = [d, e] ∧ itemsD d = some xs ∧ itemsD e = some ys ∧ P (List.zipWith (fun d e => D.tup [d, e]) xs ys) cs1) Z
theorem r_zipM {w : WA} {ρ : DL.Env} {cs : Cs} {P : List D → Cs → Prop} {Z : XZ} (h : w ρ cs (fun ds cs1 => ∃ d e xs ys, ds = [d, e] ∧ itemsD d = some xs ∧ itemsD e = some ys ∧ P (List.zipWith (fun d e => D.tup [d, e]) xs ys) cs1) Z) : iZm w ρ cs P Z := h
end
end DL
namespace DL
open PySem L2
def halfB (b : Bx) (ws : List Int) (p : Bool × Nat) (h : Bool) : Bx := if h then sndB b ws p.2 p.1 else fstB b ws p.2 p.1
def halfW (ws : List Int) (k : Nat) (h : Bool) : List Int := if h then ws.drop k else ws.take k
def bitD (h : Bool) : D := .int (if h then 1 else 0)
/-- a paper's pair: which half, and its paper -/
def PairOk (S : Bool → D → Prop) (x : D) : Prop := ∃ h e, x = .tup [bitD h, e] ∧ S h e
/-- the paper stands -/
def St (r : Rat) : Nat → Bx → List Int → D → Prop
  | 0, _, _, _ => False
  | n + 1, b, ws, d => (ws.length = 1 ∧ d = .tup [] ∧ r ≤ shapeR b.w b.h) ∨ (1 < ws.length ∧ ∃ xs, d = .tup xs ∧ xs.length = (spotL ws.length).length ∧ ∀ (i : Nat) (s : Bool × Nat) (x : D), (spotL ws.length)[i]? = some s → xs[i]? = some x → PairOk (fun h e => St r n (halfB b ws s h) (halfW ws s.2 h) e) x)
open Classical in
noncomputable def stB (r : Rat) (n : Nat) (b : Bx) (ws : List Int) (d : D) : Bool := decide (St r n b ws d)
mutual
def lnD (L : Nat) : D → Bool
  | .tup xs => decide (xs.length ≤ L) && lnL L xs
  | .lst xs => decide (xs.length ≤ L) && lnL L xs
  | _ => true
def lnL (L : Nat) : List D → Bool
  | [] => true
  | d :: ds => lnD L d && lnL L ds
end
theorem lnL_iff {L : Nat} : ∀ {xs : List D}, lnL L xs = true ↔ ∀ x ∈ xs, lnD L x = true
  | [] => ⟨fun _ _ h => (nomatch h), fun _ => rfl⟩
  | d :: ds => by
    simp only [lnL, Bool.and_eq_true, List.mem_cons, forall_eq_or_imp, lnL_iff (xs := ds)]
mutual
theorem lnD_mono {L M : Nat} (h : L ≤ M) : ∀ (d : D), lnD L d = true → lnD M d = true
  | .tup xs, q => by
    simp only [lnD, Bool.and_eq_true, decide_eq_true_eq] at q ⊢
    exact ⟨by omega, lnL_mono h xs q.2⟩
  | .lst xs, q => by
    simp only [lnD, Bool.and_eq_true, decide_eq_true_eq] at q ⊢
    exact ⟨by omega, lnL_mono h xs q.2⟩
  | .non, _ => rfl
  | .bl _, _ => rfl
  | .int _, _ => rfl
  | .str _, _ => rfl
  | .dic _, _ => rfl
  | .dct _, _ => rfl
  | .ins _ _, _ => rfl
  | .xcp _ _ _ _, _ => rfl
  | .opq _, _ => rfl
theorem lnL_mono {L M : Nat} (h : L ≤ M) : ∀ (d : List D), lnL L d = true → lnL M d = true
  | [], _ => rfl
  | d :: ds, q => by
    simp only [lnL, Bool.and_eq_true] at q ⊢
    exact ⟨lnD_mono h d q.1, lnL_mono h ds q.2⟩
end
/-- such data: so deep, so wide -/
structure Fw (N L : Nat) (d : D) : Prop where
  p : plD N d = true
  l : lnD L d = true
theorem Fw.tup {N L : Nat} {xs : List D} (h : Fw (N + 1) L (.tup xs)) : xs.length ≤ L ∧ ∀ x ∈ xs, Fw N L x := by
  have l := h.l
  simp only [lnD, Bool.and_eq_true, decide_eq_true_eq] at l
  exact ⟨l.1, fun x hx => ⟨plL_mem (plD_t h.p) hx, lnL_iff.mp l.2 x hx⟩⟩
theorem Fw.mono {N L M : Nat} {d : D} (h : Fw N L d) (hL : L ≤ M) : Fw N M d := ⟨h.p, lnD_mono hL d h.l⟩
end DL
namespace DL
open PySem L2
end DL
namespace DL
open PySem PySem.Spec PyProof.Rows L2
section
variable {X : Cx} {W : WX} {e : Expr} {we : DL.WE} {K : PySem.W.Frag}
def oRevL : D → Cs → DP → Prop := fun x cs P => ∃ xs, x = .lst xs ∧ P (.lst xs.reverse) cs
def wRevL (we : DL.WE) : DL.WE := fun ρ cs P Z => we ρ cs (fun x cs1 => oRevL x cs1 P) Z
theorem r_revL {ρ : DL.Env} {cs : Cs} {P : DP} {Z : XZ} (h : we ρ cs (fun x cs1 => oRevL x cs1 P) Z) : wRevL we ρ cs P Z := h
theorem r_revLL {xs : List D} {cs : Cs} {P : DP} (h : P (.lst xs.reverse) cs) : oRevL (.lst xs) cs P := ⟨xs, rfl, h⟩
end
end DL
namespace DL
open PySem PySem.Spec PyProof.Rows L2
/-- what is asked of a check -/
structure Due (y : Str) (P : Prop) (Q : Str → Prop) : Prop where
  ok : y = "" → P
  no : y ≠ "" → Q y
theorem Due.of {y : Str} {P : Prop} {Q : Str → Prop} (e : y = "") (h : P) : Due y P Q := ⟨fun _ => h, fun z => absurd e z⟩
end DL
namespace DL
open PySem PySem.Spec PyProof.Rows L2
section
variable {X : Cx} {W : WX} {K : PySem.W.Frag} {σ : L2.St} {H : Hp} {a b e tg : Expr} {es : List Expr} {wa wb we wo : DL.WE} {w : WA} {pos apos cpos : Pos}
/-- one sign -/
abbrev sgn (c : Nat) : D := .str ⟨#[c]⟩
def oIxS : DO2 := fun x y cs P => match x, y with
  | .str z, .int i => z.length ≤ 100000 ∧ ∃ c, atI z.cps.toList i = some c ∧ P (sgn c) cs
  | _, _ => False
theorem adq_ixS : Adq K (rIx K) oIxS := fun F cs H x y dx dy P Q s rx ry ho pe => by
  unfold oIxS at ho
  split at ho
  · obtain ⟨hz, c, e2, h⟩ := ho
    cases rx
    cases ry
    exact .inr (.inr ⟨_, _, c, rfl, rfl, Nat.le_trans hz (by decide), e2, pe H cs _ _ s (.str _) h⟩)
  · exact ho.elim
theorem d_ixS (ha : DE X W a wa) (hb : DE X W b wb) (hs : PlainIx b := by intro _ _; rfl) : DE X W (.Subscript a b pos) (wOp oIxS wa wb) := d_ix ix_seq adq_ixS ha hb hs
def oCatS : DO2 := fun x y cs P => match x, y with
  | .str i, .str j => i.length + j.length ≤ 100000 ∧ P (.str (i ++ j)) cs
  | _, _ => False
def oInS : DO2 := fun x y cs P => match y with
  | .str z => ∃ c, x = sgn c ∧ P (.bl (decide (c ∈ z.cps.toList))) cs
  | _ => False
def iStrD (we : DL.WE) : WI := fun ρ cs P Z => we ρ cs (fun d cs1 => match d with
  | .str z => P (z.cps.toList.map sgn) cs1
  | _ => False) Z
def strsOf : List D → Option (List Str)
  | [] => some []
  | .str x :: r => (strsOf r).map (x :: ·)
  | _ => none
theorem strsOf_inv : ∀ {ds : List D} {ns : List Str}, strsOf ds = some ns → ds = ns.map D.str
  | [], ns, h => by cases h; rfl
  | d :: r, ns, h => by
    cases d <;> try (simp [strsOf] at h; done)
    unfold strsOf at h
    cases e : strsOf r with
    | none => rw [e] at h; cases h
    | some ms => rw [e] at h; cases h; rw [strsOf_inv e]; rfl
theorem RepL.ofStrs {G : Hp} : ∀ (ns : List Str), RepL K G (ns.map V.str) (ns.map D.str)
  | [] => .nil
  | n :: ns => .cons (.str n) (RepL.ofStrs ns)
/-- x.m(y), x a text -/
def wM1 (o : DO2) (wo we : DL.WE) : DL.WE := fun ρ cs P Z => wo ρ cs (fun x cs1 => (∃ z, x = .str z) ∧ we ρ cs1 (fun y cs2 => o x y cs2 P) Z) Z
theorem m1_ok {r : V → List V → Hp → VK → Prop} {o : DO2} (adq : Adq K (fun x y H Q => r x [y] H Q) o) {Q : VK} : lE K W (wM1 o wo we) σ H Q → tM1 r (lE K W wo) (lE K W we) σ H Q := by
  rintro ⟨F, cs, ρ, P, Z, s, re, hw, pe, px⟩
  refine ⟨F, cs, ρ, _, Z, s, re, hw, fun H1 cs1 v d s1 r1 h1 => ?_, px⟩
  obtain ⟨⟨z, rfl⟩, h1⟩ := h1
  refine ⟨by cases r1; exact ⟨_, rfl⟩, F, cs1, ρ, _, Z, s1.self, re.mono s1.gr, h1, fun H2 cs2 v2 d2 s2 r2 h2 => ?_, px.le s1.gr⟩
  exact adq F cs2 H2 v v2 _ d2 P Q s2.self (r1.mono s2.gr) r2 h2 (pe.le (s1.gr.trans s2.gr))
def oJoin : DO2 := fun x y cs P => match x, y with
  | .str z, .lst xs => ∃ ns : List Str, strsOf xs = some ns ∧ (ns.map (·.length)).sum + ns.length * z.length ≤ 100000 ∧ P (.str (Str.join z ns)) cs
  | _, _ => False
theorem adq_join : Adq K (fun x y H Q => ∃ a p, ∃ ys : List Str, x = .str a ∧ [y] = [.ref p] ∧ (SqL K H p (ys.map V.str) ∨ SqT K H p (ys.map V.str)) ∧ (ys.map (·.length)).sum + ys.length * a.length ≤ 16777216 ∧ Q (.str (Txt.join a ys)) H) oJoin := fun F cs H x y dx dy P Q s rx ry ho pe => by
  unfold oJoin at ho
  split at ho
  · obtain ⟨ns, h1, h2, h3⟩ := ho
    have e1 := strsOf_inv h1
    subst e1
    cases rx
    cases ry with
    | lst h r =>
      have e2 := RepL.strs ns r
      subst e2
      exact ⟨_, _, ns, rfl, rfl, .inl (ex_l pur_le h), Nat.le_trans h2 (by decide), by rw [TL.join_eq]; exact pe H cs _ _ s (.str _) h3⟩
  · exact ho.elim
theorem d_join (ho : DE X W a wa) (he : DE X W e we) (hs : starEach [e] X.env = [(false, eval e X.env)] := by rfl) (hbase : attributeBase a "join" X.env (eval a X.env) = eval a X.env := by rfl) (hline : (apos.endLine == pos.line) = true := by rfl) :
    DE X W (.Call (.Attribute a "join" apos) [e] [] pos) (wM1 oJoin wa we) := PE.imp (pe_join ho he hs hbase hline) fun σ H Q h => m1_ok adq_join h
def wFmt (we : DL.WE) : DL.WE := fun ρ cs P Z => we ρ cs (fun x cs1 => match x with
  | .str y => y.length ≤ 100000 ∧ P (.str y) cs1
  | .int i => i.natAbs.log2 < 1920 ∧ P (.str (toString i : String)) cs1
  | _ => False) Z
def wJs : List DL.WE → Str → Env → Cs → (Str → Cs → Prop) → XZ → Prop
  | [], acc, _, cs, Q, _ => Q acc cs
  | we :: ws, acc, ρ, cs, Q, Z => we ρ cs (fun x cs1 => match x with
    | .str y => (acc ++ y).length ≤ 100000 ∧ wJs ws (acc ++ y) ρ cs1 Q Z
    | _ => False) Z
def wJoined (ws : List DL.WE) : DL.WE := fun ρ cs P Z => wJs ws Str.empty ρ cs (fun y cs1 => P (.str y) cs1) Z
end
section
variable {ρ : DL.Env} {cs : Cs} {P : DP} {Z : XZ} {we wo : DL.WE} {z t : Str}
theorem r_ixS {i : Int} {c : Nat} (hz : z.length ≤ 100000) (e : atI z.cps.toList i = some c) (h : P (sgn c) cs) : oIxS (.str z) (.int i) cs P := ⟨hz, c, e, h⟩
theorem r_catS (hz : z.length + t.length ≤ 100000) (h : P (.str (z ++ t)) cs) : oCatS (.str z) (.str t) cs P := ⟨hz, h⟩
theorem r_inS {c : Nat} (h : P (.bl (decide (c ∈ z.cps.toList))) cs) : oInS (sgn c) (.str z) cs P := ⟨c, rfl, h⟩
theorem r_strI {R : List D → Cs → Prop} (h : we ρ cs (fun d cs1 => match d with | .str z => R (z.cps.toList.map sgn) cs1 | _ => False) Z) : iStrD we ρ cs R Z := h
theorem r_m1 {o : DO2} (h : wo ρ cs (fun x cs1 => (∃ z, x = .str z) ∧ we ρ cs1 (fun y cs2 => o x y cs2 P) Z) Z) : wM1 o wo we ρ cs P Z := h
theorem r_isStr {R : Prop} (h : R) : (∃ z', D.str z = .str z') ∧ R := ⟨⟨_, rfl⟩, h⟩
theorem r_joinS {ns : List Str} {xs : List D} (e : strsOf xs = some ns) (hz : (ns.map (·.length)).sum + ns.length * z.length ≤ 100000) (h : P (.str (Str.join z ns)) cs) : oJoin (.str z) (.lst xs) cs P := ⟨ns, e, hz, h⟩
theorem r_fmt (h : we ρ cs (fun x cs1 => match x with
  | .str y => y.length ≤ 100000 ∧ P (.str y) cs1
  | .int i => i.natAbs.log2 < 1920 ∧ P (.str (toString i : String)) cs1
  | _ => False) Z) : wFmt we ρ cs P Z := h
theorem r_joined {ws : List DL.WE} (h : wJs ws Str.empty ρ cs (fun y cs1 => P (.str y) cs1) Z) : wJoined ws ρ cs P Z := h
theorem r_jsC {ws : List DL.WE} {acc : Str} {Q : Str → Cs → Prop} (h : we ρ cs (fun x cs1 => match x with
    | .str y => (acc ++ y).length ≤ 100000 ∧ wJs ws (acc ++ y) ρ cs1 Q Z
    | _ => False) Z) : wJs (we :: ws) acc ρ cs Q Z := h
theorem r_jsN {acc : Str} {Q : Str → Cs → Prop} (h : Q acc cs) : wJs [] acc ρ cs Q Z := h
end
theorem len_tl (x : Str) : x.length = (TL.tl x).length := TL.len_tl x
/-- small letters, one to eight -/
structure LowOk (x : Str) : Prop where
  l0 : 1 ≤ x.length
  l1 : x.length ≤ 8
  low : ∀ c ∈ TL.tl x, 97 ≤ c ∧ c ≤ 122
def mkS (l : List Nat) : Str := ⟨l.toArray⟩
theorem tl_mkS (l : List Nat) : TL.tl (mkS l) = l := rfl
theorem joinL_nil : ∀ l : List Nat, TL.joinL [] (l.map fun c => [c]) = l
  | [] => rfl
  | [c] => rfl
  | c :: d :: r => by
    have ih := joinL_nil (d :: r)
    show [c] ++ [] ++ TL.joinL [] ((d :: r).map fun c => [c]) = _
    rw [ih]; rfl
theorem join_sgn (l : List Nat) : Str.join (Str.ofString "") (l.map fun c => (⟨#[c]⟩ : Str)) = mkS l := by
  refine TL.ext_tl ?_
  rw [TL.tl_join, List.map_map, tl_mkS]
  have e : TL.tl (Str.ofString "") = [] := by decide +kernel
  rw [e]
  exact joinL_nil l
theorem strsOf_sgn : ∀ l : List Nat, strsOf (l.map sgn) = some (l.map fun c => (⟨#[c]⟩ : Str))
  | [] => rfl
  | c :: l => by rw [List.map_cons]; unfold strsOf; rw [strsOf_sgn l]; rfl
theorem sum_sgn (l : List Nat) : ((l.map fun c => (⟨#[c]⟩ : Str)).map (·.length)).sum = l.length := by
  induction l with
  | nil => rfl
  | cons c l ih => rw [List.map_cons, List.map_cons, List.sum_cons, ih, List.length_cons]; show 1 + _ = _; omega
def lettersS : Str := Str.ofString "abcdefghijklmnopqrstuvwxyz"
theorem tl_letters : TL.tl lettersS = (List.range 26).map (97 + ·) := by decide +kernel
theorem letter_at {g : Int} (h0 : 0 ≤ g) (h1 : g < 26) : atI lettersS.cps.toList g = some (97 + g.toNat) := by
  rw [show lettersS.cps.toList = (List.range 26).map (97 + ·) from tl_letters]
  unfold atI ixN
  rw [if_pos h0, if_pos (by rw [List.length_map, List.length_range]; exact h1)]
  show ((List.range 26).map (97 + ·))[g.toNat]? = _
  rw [List.getElem?_map, List.getElem?_range (by omega)]
  rfl
/-- so many names, no two alike -/
structure NamesOk (ns : List Str) (m : Nat) : Prop where
  len : ns.length = m
  nd : ns.Nodup
  ok : ∀ x ∈ ns, LowOk x
theorem step_ne {s : Int} (hs : s ∈ ([1, 3, 5, 7, 9, 11, 15, 25] : List Int)) {d : Nat} (h0 : 0 < d) (h1 : d < 26) : (s * d) % 26 ≠ 0 := by
  have key : (([1, 3, 5, 7, 9, 11, 15, 25] : List Int).all fun s => (List.range 26).all fun d => d == 0 || decide ((s * (d : Int)) % 26 ≠ 0)) = true := by decide +kernel
  have k2 := List.all_eq_true.mp (List.all_eq_true.mp key s hs) d (List.mem_range.mpr h1)
  rw [Bool.or_eq_true] at k2
  rcases k2 with k2 | k2
  · have := beq_iff_eq.mp k2; omega
  · exact of_decide_eq_true k2
theorem nodup_at {ns : List Str} {pl : Nat} {b s : Int} (hs : s ∈ ([1, 3, 5, 7, 9, 11, 15, 25] : List Int)) (hl : ns.length ≤ 26)
    (h : ∀ (i : Nat) (x : Str), ns[i]? = some x → (TL.tl x)[pl]? = some (97 + ((b + s * (i : Int)) % 26).toNat)) : ns.Nodup := by
  rw [List.nodup_iff_pairwise_ne, List.pairwise_iff_getElem]
  intro i j hi hj hij e
  have h1 := h i ns[i] (List.getElem?_eq_getElem hi)
  have h2 := h j ns[j] (List.getElem?_eq_getElem hj)
  rw [e, h2] at h1
  have h3 := Option.some.inj h1
  have hz := step_ne hs (d := j - i) (by omega) (by omega)
  have e1 : s * ((j - i : Nat) : Int) = s * (j : Int) - s * (i : Int) := by
    rw [show ((j - i : Nat) : Int) = (j : Int) - (i : Int) by omega, Int.mul_sub]
  rw [e1] at hz
  generalize s * (j : Int) = u at *
  generalize s * (i : Int) = v at *
  omega
end DL
namespace DL
open PySem
open PySem.Sem (wp)
theorem zip_nolen : typeLookup (.type "zip") "__len__" = pure none := by rw [typeLookup_type, builtinLookup_eq_fast]; kernel_rfl
theorem zip_nohint : typeLookup (.type "zip") "__length_hint__" = pure none := by rw [typeLookup_type, builtinLookup_eq_fast]; kernel_rfl
/-- a zip of two lists after i turns, its pairs kept by others -/
structure ZlSt (h : Heap) (z TI TO i1 i2 l1 l2 S : Addr) (xs ys : Array Value) (i : Nat) : Prop where
  pTI : IsPair h TI (.ref i1) (.ref i2)
  p1 : h.IsListIter i1 l1 i
  p2 : h.IsListIter i2 l2 i
  q1 : h.IsList l1 xs
  q2 : h.IsList l2 ys
  pz : (IsZip h z TI TO .none ∧ ∃ a b, IsPair h TO a b) ∨ ∃ T f oT, IsZipHeld h z TI TO T f ∧ h.get? T = some oT ∧ T ≠ z ∧ T ≠ i1 ∧ T ≠ i2 ∧ T ≠ S
/-- the pairs' places, one behind the other -/
structure ZlG (xs ys : Array Value) (lo : Addr) (h : Heap) (as : List Addr) : Prop where
  rise : as.Pairwise (· < ·)
  above : ∀ a ∈ as, lo < a
  pairs : ∀ (j : Nat) (a : Addr), as[j]? = some a → ∃ x y, xs[j]? = some x ∧ ys[j]? = some y ∧ IsPair h a x y
theorem ZlG.there {xs ys : Array Value} {lo : Addr} {h : Heap} {as : List Addr} (g : ZlG xs ys lo h as) {a : Addr} (ha : a ∈ as) : a < h.objs.size := by
  obtain ⟨j, hj⟩ := List.mem_iff_getElem?.mp ha
  obtain ⟨_, _, _, _, e⟩ := g.pairs j a hj
  exact Heap.lt_size e
section
variable {prog : Program} {w : World} {A : Around} {E : Value → Shared → Prop} {s : Shared} {z TI TO i1 i2 l1 l2 S : Addr} {xs ys : Array Value} {i : Nat}
theorem ZlSt.keep {h h' : Heap} (st : ZlSt h z TI TO i1 i2 l1 l2 S xs ys i) (hk : ∀ b o, b ≠ S → h.get? b = some o → h'.get? b = some o) (hS : ∀ c ∈ [z, TI, TO, i1, i2, l1, l2], S ≠ c) : ZlSt h' z TI TO i1 i2 l1 l2 S xs ys i := by
  obtain ⟨hTI, h1, h2, hl1, hl2, hz⟩ := st
  refine ⟨hk _ _ (hS TI (by simp)).symm hTI, h1.at fun o e => hk _ o (hS i1 (by simp)).symm e, h2.at fun o e => hk _ o (hS i2 (by simp)).symm e, hl1.at fun o e => hk _ o (hS l1 (by simp)).symm e, hl2.at fun o e => hk _ o (hS l2 (by simp)).symm e, ?_⟩
  rcases hz with ⟨hz, a, b, hTO⟩ | ⟨T, f, oT, hz, hT, r1, r2, r3, r4⟩
  · exact .inl ⟨hk _ _ (hS z (by simp)).symm hz, a, b, hk _ _ (hS TO (by simp)).symm hTO⟩
  · exact .inr ⟨T, f, oT, hk _ _ (hS z (by simp)).symm hz, hk _ _ r4 hT, r1, r2, r3, r4⟩
theorem zl_item {x y : Value} {Q : Option Value → Shared → Prop} (D : ZipApart z TI TO i1 i2 l1 l2) (st : ZlSt s.heap z TI TO i1 i2 l1 l2 S xs ys i) (hS : S < s.heap.objs.size) (ex : xs[i]? = some x) (ey : ys[i]? = some y)
    (hQ : ∀ h', ZlSt h' z TI TO i1 i2 l1 l2 S xs ys (i + 1) → IsPair h' s.heap.objs.size x y → h'.objs.size = s.heap.objs.size + 1 →
      (∀ c o, c ≠ z → c ≠ TO → c ≠ i1 → c ≠ i2 → s.heap.get? c = some o → h'.get? c = some o) → Q (some (.ref s.heap.objs.size)) { s with heap := h' }) :
    wpAny (model prog w) A (pyNext (.ref z)) Q E s := by
  obtain ⟨hTI, h1, h2, hl1, hl2, hz⟩ := st
  have lt : ∀ {c o}, s.heap.get? c = some o → s.heap.objs.size ≠ c := fun e => Nat.ne_of_gt (Heap.lt_size e)
  have n1 : s.heap.objs.size ≠ i1 := let ⟨_, e, _⟩ := h1; lt e
  have n2 : s.heap.objs.size ≠ i2 := let ⟨_, e, _⟩ := h2; lt e
  rcases hz with ⟨hz, a, b, hTO⟩ | ⟨T, f, oT, hz, hT, r1, r2, r3, r4⟩
  · refine wpAny_pyNext_zip_item D hz hTI hTO h1 h2 hl1 hl2 ex ey fun h' a1 a2 a3 a4 a5 a6 hk => ?_
    exact hQ h' ⟨hk _ _ D.TIz D.TITO D.TIi1 D.TIi2 hTI, a3, a4, hl1.at fun o e => hk _ o D.l1z D.l1TO D.l1i1 D.l1i2 e, hl2.at fun o e => hk _ o D.l2z D.l2TO D.l2i1 D.l2i2 e,
      .inr ⟨s.heap.objs.size, false, _, a1, a5, lt hz, n1, n2, Nat.ne_of_gt hS⟩⟩ a5 a6 hk
  · refine wpAny_pyNext_zip_item_held D hz hT hTI h1 h2 hl1 hl2 ex ey fun h' a1 a3 a4 a5 a6 hk => ?_
    exact hQ h' ⟨hk _ _ D.TIz D.TIi1 D.TIi2 hTI, a3, a4, hl1.at fun o e => hk _ o D.l1z D.l1i1 D.l1i2 e, hl2.at fun o e => hk _ o D.l2z D.l2i1 D.l2i2 e,
      .inr ⟨T, true, oT, a1, hk _ _ r1 r2 r3 hT, r1, r2, r3, r4⟩⟩ a5 a6 fun c o c1 _ c3 c4 e => hk c o c1 c3 c4 e
theorem zl_done {Q : Option Value → Shared → Prop} (hh : A.handled = none) (D : ZipApart z TI TO i1 i2 l1 l2) (st : ZlSt s.heap z TI TO i1 i2 l1 l2 S xs ys i) (hend : xs[i]? = none ∨ ys[i]? = none)
    (hQ : ∀ h', (∀ c o, c ≠ z → c ≠ TO → c ≠ i1 → c ≠ i2 → s.heap.get? c = some o → h'.get? c = some o) → Q none { s with heap := h' }) : wpAny (model prog w) A (pyNext (.ref z)) Q E s := by
  obtain ⟨hTI, h1, h2, hl1, hl2, hz⟩ := st
  rcases hz with ⟨hz, a, b, hTO⟩ | ⟨T, f, oT, hz, hT, r1, r2, r3, r4⟩
  · exact wpAny_pyNext_zip_end hh D hz hTI hTO h1 h2 hl1 hl2 hend hQ
  · exact wpAny_pyNext_zip_end_held hh D hz hT hTI h1 h2 hl1 hl2 hend fun h' hk => hQ h' fun c o c1 _ c3 c4 e => hk c o c1 c3 c4 e
theorem zl_loop {R : Result → Shared → Prop} (hh : A.handled = none) (D : ZipApart z TI TO i1 i2 l1 l2) (hS : ∀ c ∈ [z, TI, TO, i1, i2, l1, l2], S ≠ c) (hlow : ∀ c ∈ [z, TO, i1, i2], c < S) (hn : min xs.size ys.size ≤ sizeLine) (res : Value) {h₁ : Heap}
    (hR : ∀ h' tk acc c as, (∀ b o, b ≠ S → b ≠ z → b ≠ TO → b ≠ i1 → b ≠ i2 → h₁.get? b = some o → h'.get? b = some o) → h'.get? S = some { cls := .type "list", dict := none, data := .seq acc c, slots := #[] } → as.length = min xs.size ys.size → ZlG xs ys S h' as →
      acc.toList = as.map Value.ref → R (.ok (.ret res)) { s with heap := h', toks := tk }) :
    ∀ (k i : Nat) (h : Heap) (tk c : Nat) (acc : Array Value) (as : List Addr), min xs.size ys.size - i = k → i ≤ min xs.size ys.size → ZlSt h z TI TO i1 i2 l1 l2 S xs ys i → (∀ b o, b ≠ S → b ≠ z → b ≠ TO → b ≠ i1 → b ≠ i2 → h₁.get? b = some o → h.get? b = some o) →
      h.get? S = some { cls := .type "list", dict := none, data := .seq acc c, slots := #[] } → acc.toList = as.map Value.ref → as.length = i → ZlG xs ys S h as →
      codeAny (model prog w) A (.builtin "list.extend.loop" ⟨[.ref S, .ref z, res], []⟩) R { s with heap := h, toks := tk } := by
  intro k
  have Sz : S ≠ z := hS z (by simp)
  have STO : S ≠ TO := hS TO (by simp)
  have S1 : S ≠ i1 := hS i1 (by simp)
  have S2 : S ≠ i2 := hS i2 (by simp)
  induction k with
  | zero =>
    intro i h tk c acc as hk hi hst hkeep hSh hacc hal hG
    refine codeAny_builtin PySem.F.entry_extend_loop ?_
    rw [Around.under_plainId PySem.F.plain_extend_loop _]
    show wpAny _ A.in1 (pyNext (.ref z) >>= _) _ _ _
    have hend : xs[i]? = none ∨ ys[i]? = none := by
      by_cases q : xs.size ≤ i
      · exact .inl (Array.getElem?_eq_none q)
      · exact .inr (Array.getElem?_eq_none (by omega))
    refine wpAny_bind (zl_done (s := { s with heap := h, toks := tk }) (A := A.in1) hh D hst hend fun h' he => ?_)
    have hlo : ∀ a ∈ as, ∀ c ∈ [z, TO, i1, i2], a ≠ c := fun a ha c hc e => by
      have q1 := hG.above a ha
      have q2 := hlow c hc
      rw [e] at q1
      exact absurd q1 (Nat.not_lt.mpr (Nat.le_of_lt q2))
    refine wpAny_pure (hR h' tk acc c as (fun b o b0 b1 b2 b3 b4 e => he b o b1 b2 b3 b4 (hkeep b o b0 b1 b2 b3 b4 e)) (he S _ Sz STO S1 S2 hSh) (by omega) ⟨hG.rise, hG.above, fun j a hj => ?_⟩ hacc)
    obtain ⟨x, y, e1, e2, e3⟩ := hG.pairs j a hj
    have ha := List.mem_of_getElem? hj
    exact ⟨x, y, e1, e2, he a _ (hlo a ha z (by simp)) (hlo a ha TO (by simp)) (hlo a ha i1 (by simp)) (hlo a ha i2 (by simp)) e3⟩
  | succ k ih =>
    intro i h tk c acc as hk hi hst hkeep hSh hacc hal hG
    have hlt : i < min xs.size ys.size := by omega
    have ex : xs[i]? = some xs[i] := Array.getElem?_eq_getElem (by omega)
    have ey : ys[i]? = some ys[i] := Array.getElem?_eq_getElem (by omega)
    have hsz : acc.size = i := by rw [← Array.length_toList, hacc, List.length_map, hal]
    refine codeAny_builtin PySem.F.entry_extend_loop ?_
    rw [Around.under_plainId PySem.F.plain_extend_loop _]
    show wpAny _ A.in1 (pyNext (.ref z) >>= _) _ _ _
    refine wpAny_bind (zl_item (s := { s with heap := h, toks := tk }) D hst (Heap.lt_size hSh) ex ey fun h' hst' ht hz hkp => ?_)
    dsimp only at ht hz hkp ⊢
    have hSh' := hkp S _ Sz STO S1 S2 hSh
    have up : ∀ b o, b ≠ S → h'.get? b = some o → (h'.update S (Obj.mapSeq (·.push (Value.ref h.objs.size)))).get? b = some o := fun b o hb e => (Heap.get?_update_other _ _ (Ne.symm hb)).trans e
    have hSl : S < h.objs.size := Heap.lt_size hSh
    show wpAny _ A.in1 (updateSeq S (·.push (Value.ref h.objs.size)) >>= _) _ _ _
    refine wpAny_bind ?_
    refine wpAny_updateSeq hSh' rfl (wpAny_pure ⟨plainId_quiet PySem.F.plain_extend_loop _, ih (i + 1) _ tk _ (acc.push (Value.ref h.objs.size)) (as ++ [h.objs.size]) (by omega) hlt (hst'.keep up hS)
      (fun b o b0 b1 b2 b3 b4 e => up b o b0 (hkp b o b1 b2 b3 b4 (hkeep b o b0 b1 b2 b3 b4 e))) (Heap.get?_update_self _ hSh' rfl) (by rw [Array.toList_push, hacc, List.map_append]; rfl) (by rw [List.length_append, hal]; rfl) ⟨?_, ?_, ?_⟩⟩) (by rw [hsz]; omega) (by show (acc.push (Value.ref h.objs.size)).size ≤ sizeLine + 1; rw [Array.size_push, hsz]; omega)
    · refine List.pairwise_append.mpr ⟨hG.rise, List.pairwise_singleton _ _, fun a ha b hb => ?_⟩
      rw [List.mem_singleton.mp hb]
      exact hG.there ha
    · intro a ha
      rcases List.mem_append.mp ha with ha | ha
      · exact hG.above a ha
      · rw [List.mem_singleton.mp ha]; exact hSl
    · intro j b hj
      rcases Nat.lt_trichotomy j as.length with h1 | h1 | h1
      · rw [List.getElem?_append_left h1] at hj
        obtain ⟨x', y', e1, e2, e3⟩ := hG.pairs j b hj
        have hb := hG.above b (List.mem_of_getElem? hj)
        have ne : ∀ c ∈ [z, TO, i1, i2], b ≠ c := fun c hc e => by
          have q2 := hlow c hc
          rw [e] at hb
          exact absurd hb (Nat.not_lt.mpr (Nat.le_of_lt q2))
        exact ⟨x', y', e1, e2, up b _ (Nat.ne_of_gt hb) (hkp b _ (ne z (by simp)) (ne TO (by simp)) (ne i1 (by simp)) (ne i2 (by simp)) e3)⟩
      · subst h1
        have hb : h.objs.size = b := by simpa using hj
        subst hb
        exact ⟨_, _, by rw [hal]; exact ex, by rw [hal]; exact ey, up _ _ (Nat.ne_of_gt hSl) ht⟩
      · have hnone : (as ++ [h.objs.size])[j]? = none := List.getElem?_eq_none (by rw [List.length_append, List.length_singleton]; omega)
        rw [hnone] at hj; cases hj
theorem zl_extend {R : Result → Shared → Prop} (hh : A.handled = none) (D : ZipApart z TI TO i1 i2 l1 l2) (hS : ∀ c ∈ [z, TI, TO, i1, i2, l1, l2], S ≠ c) (hlow : ∀ c ∈ [z, TO, i1, i2], c < S) (st : ZlSt s.heap z TI TO i1 i2 l1 l2 S xs ys 0) (hz0 : IsZip s.heap z TI TO .none) (res : Value) (c₀ : Nat) (hSh : s.heap.get? S = some { cls := .type "list", data := .seq #[] c₀ })
    (hR : ∀ h' tk acc c as, (∀ b o, b ≠ S → b ≠ z → b ≠ TO → b ≠ i1 → b ≠ i2 → s.heap.get? b = some o → h'.get? b = some o) → h'.get? S = some { cls := .type "list", dict := none, data := .seq acc c, slots := #[] } → as.length = min xs.size ys.size → ZlG xs ys S h' as →
      acc.toList = as.map Value.ref → R (.ok (.ret res)) { s with heap := h', toks := tk }) (hn : min xs.size ys.size ≤ sizeLine) :
    wpAny (model prog w) A.in1 (Builtin.List.listExtendWith (.ref S) (.ref z) res)
      (fun fin s' => match fin with | .done f => R (.ok f) s' | .again c' => c'.quiet = true ∧ codeAny (model prog w) A c' R s') (fun e s' => R (.error e) s') s := by
  have Sz : S ≠ z := hS z (by simp)
  have hT : s.TypeIs (.ref z) "zip" := ⟨_, hz0, rfl⟩
  have key : ∀ (h : Heap) (c₁ tk : Nat), (∀ b o, b ≠ S → s.heap.get? b = some o → h.get? b = some o) →
      h.get? S = some { cls := .type "list", data := .seq #[] c₁ } → codeAny (model prog w) A (.builtin "list.extend.loop" ⟨[.ref S, .ref z, res], []⟩) R { s with heap := h, toks := tk } := by
    intro h c₁ tk hk hS₁
    exact zl_loop (s := s) (h₁ := s.heap) hh D hS hlow hn res hR _ 0 h tk c₁ #[] [] rfl (Nat.zero_le _) (st.keep hk hS) (fun b o b0 _ _ _ _ e => hk b o b0 e) hS₁ rfl rfl ⟨List.Pairwise.nil, (fun _ ha => nomatch ha), (fun j a hj => by simp at hj)⟩
  unfold Builtin.List.listExtendWith
  refine wpAny_bind (wpAny_typeOf hT ?_)
  have h1 : Builtin.List.listSameRef (.ref S) (.ref z) = false := by simp [Builtin.List.listSameRef, Sz]
  have h2 : (Value.type "zip" == Value.type "list") = false := by decide
  have h3 : (Value.type "zip" == Value.type "tuple") = false := by decide
  simp only [h1, h2, h3, Bool.or_false, Bool.false_eq_true, if_false]
  refine wpAny_bind (wpAny_pyIter_zip hz0 ?_)
  refine wpAny_bind (wpAny_holding ?_)
  unfold Builtin.List.listLengthHint
  refine wpAny_bind (wpAny_specialOf hT zip_nolen ?_)
  show wpAny _ A.in1 (specialOf (Value.ref z) (Str.ofString "__length_hint__") >>= _) _ _ _
  refine wpAny_bind (wpAny_specialOf hT zip_nohint ?_)
  refine wpAny_pure ?_
  show wpAny _ A.in1 (rule "list.extend.makes-room" >>= fun _ => Builtin.List.listTouch (.ref S) >>= fun _ =>
    again (.builtin "list.extend.loop" ⟨[.ref S, .ref z, res], []⟩)) _ _ _
  refine wpAny_bind (wpAny_rule ?_)
  refine wpAny_bind ?_
  show wpAny _ A.in1 (updateSeq S (·.push .none) >>= fun _ => updateSeq S (·.pop)) _ _ _
  refine wpAny_bind (wpAny_updateSeq hSh rfl ?_)
  have hS₂ := Heap.get?_update_self (Obj.mapSeq (·.push Value.none)) hSh rfl
  refine wpAny_updateSeq (hz := by seq_fits) hS₂ rfl ?_
  have hS₃ := Heap.get?_update_self (Obj.mapSeq (·.pop)) hS₂ rfl
  refine wpAny_pure ⟨plainId_quiet PySem.F.plain_extend_loop _, key _ _ _ (fun b o hb e => ?_) hS₃⟩
  exact (Heap.get?_update_other _ _ (Ne.symm hb)).trans ((Heap.get?_update_other _ _ (Ne.symm hb)).trans e)
theorem zl_init {R : Result → Shared → Prop} (hh : A.handled = none) (D : ZipApart z TI TO i1 i2 l1 l2) (hS : ∀ c ∈ [z, TI, TO, i1, i2, l1, l2], S ≠ c) (hlow : ∀ c ∈ [z, TO, i1, i2], c < S) (st : ZlSt s.heap z TI TO i1 i2 l1 l2 S xs ys 0) (hz0 : IsZip s.heap z TI TO .none) (hSh : s.heap.get? S = some { cls := .type "list", data := .seq #[] })
    (hR : ∀ h' tk acc c as, (∀ b o, b ≠ S → b ≠ z → b ≠ TO → b ≠ i1 → b ≠ i2 → s.heap.get? b = some o → h'.get? b = some o) → h'.get? S = some { cls := .type "list", dict := none, data := .seq acc c, slots := #[] } → as.length = min xs.size ys.size → ZlG xs ys S h' as →
      acc.toList = as.map Value.ref → R (.ok (.ret .none)) { s with heap := h', toks := tk }) (hn : min xs.size ys.size ≤ sizeLine) :
    wpAny (model prog w) A.in1 (Builtin.«list.__init__» ⟨[.ref S, .ref z], []⟩)
      (fun fin s' => match fin with | .done f => R (.ok f) s' | .again c' => c'.quiet = true ∧ codeAny (model prog w) A c' R s') (fun e s' => R (.error e) s') s := by
  show wpAny _ _ (do let old ← Builtin.List.listItems (.ref S); Builtin.List.listUpdate (.ref S) (fun _ => #[]); letGo old.toList.reverse; Builtin.List.listExtendWith (.ref S) (.ref z) .none) _ _ s
  refine wpAny_bind ?_
  unfold Builtin.List.listItems
  refine wpAny_bind (wpAny_seqItems hSh rfl (wpAny_pure ?_))
  show wpAny _ _ (updateSeq S (fun _ => #[]) >>= fun _ => letGo (#[] : Array Value).toList.reverse >>= fun _ => Builtin.List.listExtendWith (.ref S) (.ref z) .none) _ _ s
  refine wpAny_bind (wpAny_updateSeq hSh rfl ?_)
  have hS₂ := Heap.get?_update_self (Obj.mapSeq (fun _ => (#[] : Array Value))) hSh rfl
  have oth : ∀ b o, b ≠ S → s.heap.get? b = some o → (s.heap.update S (Obj.mapSeq (fun _ => (#[] : Array Value)))).get? b = some o :=
    fun b o hb e => (Heap.get?_update_other _ _ (Ne.symm hb)).trans e
  refine wpAny_bind (wpAny_letGo ?_)
  exact zl_extend hh D hS hlow (st.keep oth hS) (oth _ _ (hS z (by simp)).symm hz0) .none _ hS₂ (fun h' tk acc c as hk hS' hl hG hacc => hR h' tk acc c as (fun b o b0 b1 b2 b3 b4 e => hk b o b0 b1 b2 b3 b4 (oth b o b0 e)) hS' hl hG hacc) hn
/-- list(z) of a zip that has not begun -/
theorem zl_call {Q : Value → Shared → Prop} (hh : A.handled = none) (D : ZipApart z TI TO i1 i2 l1 l2) (hz0 : IsZip s.heap z TI TO .none) (hTI : IsPair s.heap TI (.ref i1) (.ref i2)) (hTO : ∃ a b, IsPair s.heap TO a b) (h1 : s.heap.IsListIter i1 l1 0) (h2 : s.heap.IsListIter i2 l2 0) (hl1 : s.heap.IsList l1 xs) (hl2 : s.heap.IsList l2 ys) (hn : min xs.size ys.size ≤ sizeLine)
    (hQ : ∀ h' tk acc c as, (∀ b o, b ≠ z → b ≠ TO → b ≠ i1 → b ≠ i2 → s.heap.get? b = some o → h'.get? b = some o) → h'.get? s.heap.objs.size = some { cls := .type "list", dict := none, data := .seq acc c, slots := #[] } → as.length = min xs.size ys.size → ZlG xs ys s.heap.objs.size h' as →
      acc.toList = as.map Value.ref → Q (.ref s.heap.objs.size) { s with heap := h', toks := tk }) :
    wpAny (model prog w) A (call (.type "list") [.ref z]) Q E s := by
  refine callType_codes (Q₁ := fun obj s₁ => obj = .ref s.heap.objs.size ∧ s₁ = { s with heap := s.heap.push { cls := .type "list", data := .seq #[] } }) PySem.F.called_list (PySem.F.typeCall_list_1 _) PySem.F.entry_list_init
    (code_list_new _ ⟨rfl, rfl⟩) fun obj s₁ h₁ => ?_
  obtain ⟨rfl, rfl⟩ := h₁
  have hSh : (s.heap.push { cls := .type "list", data := .seq #[] }).get? s.heap.objs.size = some { cls := .type "list", data := .seq #[] } := Heap.get?_push_size _ rfl
  obtain ⟨a, b, hTO⟩ := hTO
  have g1 : i1 < s.heap.objs.size := let ⟨_, e, _⟩ := h1; Heap.lt_size e
  have g2 : i2 < s.heap.objs.size := let ⟨_, e, _⟩ := h2; Heap.lt_size e
  have g3 : l1 < s.heap.objs.size := let ⟨_, e, _⟩ := hl1; Heap.lt_size e
  have g4 : l2 < s.heap.objs.size := let ⟨_, e, _⟩ := hl2; Heap.lt_size e
  have low : ∀ c ∈ [z, TI, TO, i1, i2, l1, l2], c < s.heap.objs.size := fun c hc => by
    simp only [List.mem_cons, List.not_mem_nil, or_false] at hc
    rcases hc with rfl | rfl | rfl | rfl | rfl | rfl | rfl
    · exact Heap.lt_size hz0
    · exact Heap.lt_size hTI
    · exact Heap.lt_size hTO
    · exact g1
    · exact g2
    · exact g3
    · exact g4
  have pu : ∀ b o, s.heap.get? b = some o → (s.heap.push { cls := .type "list", data := .seq #[] }).get? b = some o := fun b o e => Heap.get?_push_of_some _ e
  refine ⟨⟨_, hSh, rfl⟩, PySem.F.args_list_init_2 _ _, zl_init (A := A.in1) (z := z) (TI := TI) (TO := TO) (i1 := i1) (i2 := i2) (l1 := l1) (l2 := l2) (xs := xs) (ys := ys) hh D (fun c hc => Nat.ne_of_gt (low c hc)) (fun c hc => low c (by simp only [List.mem_cons, List.not_mem_nil, or_false] at hc ⊢; rcases hc with h | h | h | h <;> simp [h]))
    ⟨pu _ _ hTI, h1.at fun o e => pu _ _ e, h2.at fun o e => pu _ _ e, hl1.at fun o e => pu _ _ e, hl2.at fun o e => pu _ _ e, .inl ⟨pu _ _ hz0, a, b, pu _ _ hTO⟩⟩ (pu _ _ hz0) hSh (fun h' tk acc c as hk hS' hl hG hacc => ?_) hn⟩
  exact ⟨rfl, hQ h' tk acc c as (fun b o b1 b2 b3 b4 e => hk b o (Nat.ne_of_lt (Heap.lt_size e)) b1 b2 b3 b4 (Heap.get?_push_of_some _ e)) hS' hl hG hacc⟩
end
section
open PySem.Spec PyProof.Rows L2
def putP : Hp → List Addr → List (V × V) → Hp
  | H, a :: as, p :: ps => putP (upd H a (.tup [p.1, p.2])) as ps
  | H, _, _ => H
theorem putP_off {b : Addr} : ∀ (as : List Addr) (ps : List (V × V)) (H : Hp), b ∉ as → putP H as ps b = H b
  | [], _, _, _ => rfl
  | _ :: _, [], _, _ => rfl
  | a :: as, p :: ps, H, h => by
    show putP (upd H a (.tup [p.1, p.2])) as ps b = H b
    rw [putP_off as ps _ (fun z => h (List.mem_cons_of_mem _ z)), upd_ne (fun z => h (by rw [z]; exact List.mem_cons_self))]
theorem putP_at : ∀ (as : List Addr) (ps : List (V × V)) (H : Hp), as.length = ps.length → as.Nodup → Paired (fun (t : Addr) (p : V × V) => putP H as ps t = some (.tup [p.1, p.2])) as ps
  | [], [], _, _, _ => .nil
  | [], _ :: _, _, h, _ => by cases h
  | _ :: _, [], _, h, _ => by cases h
  | a :: as, p :: ps, H, h, hn => by
    have hn' := List.nodup_cons.mp hn
    have ih := putP_at as ps (upd H a (.tup [p.1, p.2])) (Nat.succ.inj h) hn'.2
    refine .cons ?_ ih
    show putP (upd H a (.tup [p.1, p.2])) as ps a = some (.tup [p.1, p.2])
    rw [putP_off as ps _ hn'.1, upd_same]
variable {X : Cx}
theorem pairs_laid {pins : List (Addr × Obj)} {σ : L2.St} {H : Hp} {s : Shared} {h' : Heap} {tk c : Nat} {us vs : List V} {its its2 : List Value} {acc : Array Value} {as : List Addr} {S : Addr} (I : Inv X pins σ H s) (hge : s.heap.objs.size ≤ S) (r1 : Vals us its) (r2 : Vals vs its2) (hz : as.length ≤ sizeLine)
    (hk : ∀ b o, s.heap.get? b = some o → h'.get? b = some o) (hS : h'.get? S = some { cls := .type "list", dict := none, data := .seq acc c, slots := #[] }) (hl : as.length = (us.zip vs).length) (hG : ZlG its.toArray its2.toArray S h' as) (hacc : acc.toList = as.map Value.ref) :
    ∃ H' : Hp, Ex H H' ∧ H S = none ∧ (∀ t ∈ as, H t = none) ∧ H' S = some (.lst (as.map V.ref)) ∧ Paired (fun (t : Addr) (q : V × V) => H' t = some (.tup [q.1, q.2])) as (us.zip vs) ∧ Inv X pins σ H' { s with heap := h', toks := tk } := by
  have hSn : S ∉ as := fun z => Nat.lt_irrefl _ (hG.above _ z)
  have nd : as.Nodup := List.Pairwise.imp (fun {a b} (h : a < b) => Nat.ne_of_lt h) hG.rise
  have new : ∀ t ∈ as, H t = none := fun t ht => I.hok.fresh (Nat.le_trans hge (Nat.le_of_lt (hG.above t ht)))
  have newS : H S = none := I.hok.fresh hge
  have atP := putP_at as (us.zip vs) (upd H S (.lst (as.map V.ref))) hl nd
  have off : ∀ b, b ∉ as → b ≠ S → putP (upd H S (.lst (as.map V.ref))) as (us.zip vs) b = H b := fun b h1 h2 => by rw [putP_off as _ _ h1, upd_ne h2]
  have low : ∀ b o, s.heap.get? b = some o → b ∉ as ∧ b ≠ S := fun b o e => ⟨fun z => absurd (Heap.lt_size e) (Nat.not_lt.mpr (Nat.le_trans hge (Nat.le_of_lt (hG.above b z)))), fun z => absurd (Heap.lt_size e) (Nat.not_lt.mpr (z ▸ hge))⟩
  have kp : ∀ b u, H b = some u → (putP (upd H S (.lst (as.map V.ref))) as (us.zip vs)) b = some u := fun b u e => by
    rw [off b (fun z => by rw [new b z] at e; cases e) (fun z => by rw [z, newS] at e; cases e)]
    exact e
  have eS : putP (upd H S (.lst (as.map V.ref))) as (us.zip vs) S = some (.lst (as.map V.ref)) := by rw [putP_off as _ _ hSn, upd_same]
  refine ⟨putP (upd H S (.lst (as.map V.ref))) as (us.zip vs), kp, newS, new, eS, atP, ?_⟩
  refine I.call' (ch := []) rfl ⟨fun b o q _ _ _ => hk b o q, fun b o q _ _ _ => ⟨o.slots, hk b o q⟩, fun b o q n _ => ?_, fun b o q _ => ⟨o, hk b o q⟩, fun b xs q => kp b _ q, fun b o u q => kp b _ q, fun b ps q => ⟨#[], by rw [kp b _ q]; simp⟩⟩ (fun b u q => ?_) I.bare fun b z => by simp at z
  · obtain ⟨z1, z2⟩ := low b o q
    rw [off b z1 z2]
    exact n
  · by_cases hb : b ∈ as
    · obtain ⟨j, pk, e1, e2, e3⟩ := LiI.paired_ix atP hb
      rw [e3] at q
      cases q
      obtain ⟨x, y, f1, f2, f3⟩ := hG.pairs j b e1
      obtain ⟨g1, g2⟩ := List.getElem?_zip_eq_some.mp e2
      obtain ⟨v1, k1, m1⟩ := r1.get g1
      obtain ⟨v2, k2, m2⟩ := r2.get g2
      have j1 : v1 = x := by
        have q1 : its[j]? = some x := by simpa using f1
        rw [k1] at q1; exact Option.some.inj q1
      have j2 : v2 = y := by
        have q1 : its2[j]? = some y := by simpa using f2
        rw [k2] at q1; exact Option.some.inj q1
      rw [j1] at m1
      rw [j2] at m2
      exact ⟨by show 2 ≤ sizeLine; decide, [x, y], .cons m1 (.cons m2 .nil), ⟨_, f3, rfl, _, rfl⟩⟩
    · by_cases hb2 : b = S
      · rw [hb2] at q ⊢
        rw [eS] at q
        cases q
        refine ⟨by rw [List.length_map]; omega, acc.toList, c, by rw [hacc]; exact LiI.vals_refs as, ?_⟩
        rw [Array.toArray_toList]
        exact hS
      · rw [off b hb hb2] at q
        exact (I.hok b u q).stay (fun d v _ y => hk d v y) (fun d y => kp d _ y) fun d xs y => kp d _ y
def tListZip (K : PySem.W.Frag) (ta : TA) : TE := fun σ H Q => ta σ H fun zs H1 => ∃ a b us vs, zs = [.ref a, .ref b] ∧ SqL K H1 a us ∧ SqL K H1 b vs ∧
  ∀ (H' : Hp) (p : Addr) (ts : List Addr), Ex H1 H' → H1 p = none → (∀ t ∈ ts, H1 t = none) → H' p = some (.lst (ts.map V.ref)) → Paired (fun (t : Addr) (q : V × V) => H' t = some (.tup [q.1, q.2])) ts (us.zip vs) → Q (.ref p) H'
theorem pe_listZip {e e2 : Expr} {ta : TA} {p p2 pos pos2 : Pos} (hc : X.calm = true) (hg : Gl X "list") (hm : X.mg "list" = none) (hg2 : Gl X "zip") (hm2 : X.mg "zip" = none) (ha : PA X [e, e2] ta)
    (hs : starEach [e, e2] X.env = (false, eval e X.env) :: starEach [e2] X.env := by rfl) (hpl : (backTo pos2 (starEach [e2] X.env)).any (·.1) = false := by rfl)
    (hs2 : starEach [.Call (.Name "zip" p2) [e, e2] [] pos2] X.env = (false, eval (.Call (.Name "zip" p2) [e, e2] [] pos2) X.env) :: starEach [] X.env := by rfl) :
    PE X (.Call (.Name "list" p) [.Call (.Name "zip" p2) [e, e2] [] pos2] [] pos) (tListZip X.K ta) := by
  refine ⟨fun pins s σ H Q I hq => ?_⟩
  refine Call_ (ld_blt I hg hm PyProof.Rows.boot_list ?_)
  refine PyProof.Rows.callWith_type1 ?_ hs2 rfl
  rw [hs2]
  show wpAny _ _ (spliced ((false, eval (.Call (.Name "zip" p2) [e, e2] [] pos2) X.env) :: backTo pos (starEach [] X.env))) _ _ s
  refine Calls.spliced_cons ?_
  refine Call_ (ld_blt I hg2 hm2 PyProof.Rows.boot_zip (PyProof.Rows.callWith_type1 (thn (ha.run pos2 pins s σ H _ I hq) fun us0 s1 ⟨zs, H1, I1, r1, q1⟩ => ?_) hs hpl))
  obtain ⟨a, b, us, vs, ex, hqx, hqy, q⟩ := q1
  subst ex
  cases r1 with
  | cons r rr =>
    cases rr with
    | cons r' rr =>
      cases rr
      cases r
      cases r'
      obtain ⟨its, rv, p1, hz1⟩ := I1.list hqx
      obtain ⟨its2, rv2, q2, hz2⟩ := I1.list hqy
      have pl1 := p1.isList
      have pl2 := q2.isList
      have lt1 : a < s1.heap.objs.size := let ⟨_, e, _⟩ := pl1; Heap.lt_size e
      have lt2 : b < s1.heap.objs.size := let ⟨_, e, _⟩ := pl2; Heap.lt_size e
      have len1 := rv.length
      have len2 := rv2.length
      refine call_zip_2 pl1 pl2 fun h1 hz hTI hTO g1 g2 hsz hk => ?_
      refine Calls.spliced_nil ?_
      refine zl_call (s := { s1 with heap := h1 }) (xs := its.toArray) (ys := its2.toArray) (I1.ok.hd hc) (PySem.W.ktu_apart s1.heap.objs.size a b lt1 lt2) hz hTI ⟨_, _, hTO⟩ g1 g2 (pl1.at fun o e => hk _ o e) (pl2.at fun o e => hk _ o e) (by simp; omega) fun h' tk acc c as hk' hS hl hG hacc => ?_
      have hS' : h'.get? h1.objs.size = _ := hS
      have hge : s1.heap.objs.size ≤ h1.objs.size := by rw [hsz]; exact Nat.le_add_right _ _
      have hkk : ∀ b o, s1.heap.get? b = some o → h'.get? b = some o := fun b o e => by
        have lt := Heap.lt_size e
        exact hk' b o (Nat.ne_of_lt (Nat.lt_of_lt_of_le lt (Nat.le_add_right _ _))) (Nat.ne_of_lt (Nat.lt_of_lt_of_le lt (Nat.le_add_right _ _))) (Nat.ne_of_lt lt) (Nat.ne_of_lt (Nat.lt_of_lt_of_le lt (Nat.le_add_right _ _))) (hk b o e)
      have el : as.length = (us.zip vs).length := by rw [hl, List.length_zip]; simp; omega
      obtain ⟨H', k1, k2, k3, k5, k6, J⟩ := pairs_laid (tk := tk) I1 hge rv rv2 (by rw [hl]; simp; omega) hkk hS' el hG hacc
      exact ⟨.ref _, H', J, rfl, q H' _ as k1 k2 k3 k5 k6⟩
end
section
open PySem.Spec PyProof.Rows L2
variable {X : Cx} {W : WX} {K : PySem.W.Frag} {F G0 H H' : Hp} {cs : Cs}
theorem Sta.ext (s : Sta K F G0 cs H) (e : Ex H H') : Sta K F G0 cs H' ∧ Ex (pur F cs H) (pur F cs H') := by
  have g : Ex (pur F cs H) (pur F cs H') := fun b u q => by
    obtain ⟨e1, e2, e3⟩ := pur_of q
    rw [pur_at e2 e3]
    exact e b u e1
  refine ⟨⟨s.fr.trans e, s.gr.trans g, s.nd, s.ap, fun a m hm => ?_, s.ft⟩, g⟩
  obtain ⟨o, ho, r⟩ := s.ow a m hm
  exact ⟨o, e _ _ ho, r.mono g⟩
theorem rep_pairs {G : Hp} : ∀ {ts : List Addr} {us vs : List V} {ds es : List D}, Paired (fun (t : Addr) (q : V × V) => G t = some (.tup [q.1, q.2])) ts (us.zip vs) → RepL K G us ds → RepL K G vs es → RepL K G (ts.map V.ref) (List.zipWith (fun d e => D.tup [d, e]) ds es)
  | _, _, _, _, _, h, .nil, _ => by
    cases h
    exact .nil
  | _, _, _, _, _, h, .cons _ _, .nil => by
    cases h
    exact .nil
  | _, _, _, _, _, h, .cons a b, .cons c d => by
    cases h with
    | cons h t => exact .cons (.tup (SqT.of h) (.cons a (.cons c .nil))) (rep_pairs t b d)
theorem paired_imp {α β : Type} {F F' : α → β → Prop} {as : List α} (i : ∀ a ∈ as, ∀ b, F a b → F' a b) : ∀ {as' : List α} {bs : List β}, (∀ a ∈ as', a ∈ as) → Paired F as' bs → Paired F' as' bs
  | _, _, _, .nil => .nil
  | _, _, m, .cons h t => .cons (i _ (m _ List.mem_cons_self) _ h) (paired_imp i (fun a ha => m a (List.mem_cons_of_mem _ ha)) t)
/-- list(zip(xs, ys)) -/
def wLstZ (w : WA) : DL.WE := fun ρ cs P Z => w ρ cs (fun ds cs1 => ∃ xs ys, ds = [.lst xs, .lst ys] ∧ P (.lst (List.zipWith (fun d e => D.tup [d, e]) xs ys)) cs1) Z
theorem d_listZ {w : WA} {e e2 : Expr} {p p2 pos pos2 : Pos} (hc : X.calm = true) (hg : Gl X "list") (hm : X.mg "list" = none) (hg2 : Gl X "zip") (hm2 : X.mg "zip" = none) (ha : DA X W [e, e2] w)
    (hs : starEach [e, e2] X.env = (false, eval e X.env) :: starEach [e2] X.env := by rfl) (hpl : (backTo pos2 (starEach [e2] X.env)).any (·.1) = false := by rfl)
    (hs2 : starEach [.Call (.Name "zip" p2) [e, e2] [] pos2] X.env = (false, eval (.Call (.Name "zip" p2) [e, e2] [] pos2) X.env) :: starEach [] X.env := by rfl) :
    DE X W (.Call (.Name "list" p) [.Call (.Name "zip" p2) [e, e2] [] pos2] [] pos) (wLstZ w) :=
  PE.imp (pe_listZip hc hg hm hg2 hm2 ha hs hpl hs2) fun σ H Q hq => by
    obtain ⟨F, cs, ρ, P, Z, s, re, hw, pe, px⟩ := hq
    refine ⟨F, cs, ρ, _, Z, s, re, hw, fun H1 cs1 zs ds s1 r1 l1 h1 => ?_, px⟩
    obtain ⟨xs, ys, rfl, h⟩ := h1
    cases r1 with
    | cons r1 r2 =>
      cases r2 with
      | cons r2 r3 =>
        cases r3
        cases r1 with
        | lst a1 b1 =>
        cases r2 with
        | lst a2 b2 =>
        refine ⟨_, _, _, _, rfl, ex_l pur_le a1, ex_l pur_le a2, fun H' q ts k1 k2 k3 k5 k6 => ?_⟩
        obtain ⟨s2, g⟩ := s1.ext k1
        obtain ⟨n1, n2⟩ := s1.notin k2
        have eq1 : pur F cs1 H' q = some (.lst (ts.map V.ref)) := by rw [pur_at n1 n2]; exact k5
        have k6' : Paired (fun (t : Addr) (z : V × V) => pur F cs1 H' t = some (.tup [z.1, z.2])) ts _ := paired_imp (as := ts) (fun t ht z hz => by
          obtain ⟨m1, m2⟩ := s1.notin (k3 t ht)
          rw [pur_at m1 m2]; exact hz) (fun _ h => h) k6
        exact pe _ _ _ _ s2 (.lst (SqL.of eq1) (rep_pairs k6' (b1.mono g) (b2.mono g))) h
theorem r_lstZ {w : WA} {ρ : DL.Env} {P : DP} {Z : XZ} (h : w ρ cs (fun ds cs1 => ∃ xs ys, ds = [.lst xs, .lst ys] ∧ P (.lst (List.zipWith (fun d e => D.tup [d, e]) xs ys)) cs1) Z) : wLstZ w ρ cs P Z := h
/-- dict(pairs) -/
def oDictP : DOn := fun ds cs P => ∃ kvs : List (Key × D), ds = [.lst (kvs.map fun kv => .tup [kD kv.1, kv.2])] ∧ ∀ p, p ∉ adr cs → P (.opq (.ref p)) ((p, .dic (mergeD [] kvs)) :: cs)
theorem rep_kD {G : Hp} {v : V} {k : Key} (r : Rep K G v (kD k)) : v = kV k := by
  cases k <;> cases r <;> rfl
theorem rep_dictP {G : Hp} : ∀ {vs : List V} {kvs : List (Key × D)}, RepL K G vs (kvs.map fun kv => .tup [kD kv.1, kv.2]) → ∃ (ps : List Addr) (xs : List (Key × V)), vs = ps.map V.ref ∧ Paired (fun p kv => SqT K G p [kV kv.1, kv.2]) ps xs ∧ RG K G xs kvs
  | _, [], .nil => ⟨[], [], rfl, .nil, .nil⟩
  | _, (k, d) :: kvs, .cons r t => by
    obtain ⟨ps, xs, rfl, h1, h2⟩ := rep_dictP t
    cases r with
    | tup a b =>
      cases b with
      | cons b1 b2 =>
        cases b2 with
        | cons b2 b3 =>
          cases b3
          rw [rep_kD b1] at a
          exact ⟨_ :: ps, (k, _) :: xs, rfl, .cons a h1, .cons b2 h2⟩
theorem adq_dictP : AdqN K (fun xs H Q => ∃ (a : Addr) (ps : List Addr) (kvs : List (Key × V)), xs = [.ref a] ∧ SqL K H a (ps.map V.ref) ∧ Paired (fun p kv => SqT K H p [kV kv.1, kv.2]) ps kvs ∧ ∀ p, H p = none → Q (.ref p) (upd H p (.dK (mergeK [] kvs)))) oDictP := fun F cs H xs ds P Q s r ho pe => by
  obtain ⟨kvs, rfl, h⟩ := ho
  cases r with
  | cons r1 r2 =>
    cases r2
    cases r1 with
    | lst a b =>
      obtain ⟨ps, us, rfl, h1, h2⟩ := rep_dictP b
      refine ⟨_, ps, us, rfl, ex_l pur_le a, paired_imp (as := ps) (fun t _ z hz => ex_t pur_le hz) (fun _ h => h) h1, fun p hp => ?_⟩
      have s2 := s.newM (m := .dic (mergeD [] kvs)) (o := .dK (mergeK [] us)) hp (RG.merge h2 .nil).rk
      exact pe _ _ _ _ s2 (.opq _) (h p (s.notin hp).2)
def dicZ (ns : List Str) (bs : List D) : List (Key × D) := (ns.zip bs).map fun p => (Sum.inr p.1, p.2)
theorem zip_dicZ : ∀ (ns : List Str) (bs : List D), List.zipWith (fun d e => D.tup [d, e]) (ns.map D.str) bs = (dicZ ns bs).map fun kv => D.tup [kD kv.1, kv.2]
  | [], _ => by simp [dicZ]
  | _ :: _, [] => by simp [dicZ]
  | n :: ns, b :: bs => by
    have ih := zip_dicZ ns bs
    simp only [List.map_cons, List.zipWith_cons_cons, dicZ, List.zip_cons_cons, ih]
    rfl
theorem dicZ_keys : ∀ {ns : List Str} {bs : List D}, ns.length = bs.length → (dicZ ns bs).map (·.1) = ns.map Sum.inr
  | [], [], _ => rfl
  | n :: ns, b :: bs, h => by
    have ih := dicZ_keys (ns := ns) (bs := bs) (Nat.succ.inj h)
    show Sum.inr n :: (dicZ ns bs).map (·.1) = Sum.inr n :: ns.map Sum.inr
    rw [ih]
theorem mergeD_app : ∀ (more kvs : List (Key × D)), ((kvs ++ more).map (·.1)).Nodup → mergeD kvs more = kvs ++ more
  | [], kvs, _ => by simp [mergeD]
  | (k, v) :: r, kvs, h => by
    have hno : ∀ q ∈ kvs, q.1 ≠ k := fun q hq e => by
      rw [List.map_append, List.nodup_append] at h
      exact h.2.2 q.1 (List.mem_map.mpr ⟨q, hq, rfl⟩) k (by simp) e
    show mergeD (putD kvs k v) r = _
    rw [putD_new v (look_none_of hno)]
    have e := mergeD_app r (kvs ++ [(k, v)]) (by simpa using h)
    rw [e]; simp
theorem r_dictN {ns : List Str} {bs : List D} {P : DP} (nd : ns.Nodup) (hl : ns.length = bs.length) (h : ∀ p, p ∉ adr cs → P (.opq (.ref p)) ((p, .dic (dicZ ns bs)) :: cs)) : oDictP [.lst (List.zipWith (fun d e => D.tup [d, e]) (ns.map D.str) bs)] cs P := by
  refine ⟨dicZ ns bs, by rw [zip_dicZ], fun p hp => ?_⟩
  rw [mergeD_app (dicZ ns bs) [] (by
    rw [List.nil_append, dicZ_keys hl]
    exact List.Pairwise.map _ (fun a b hn e => hn (Sum.inr.inj e)) nd), List.nil_append]
  exact h p hp
end
end DL
namespace DL
open PySem PySem.Spec PyProof.Rows L2
/-- what the ways from a to b and from c to d have in common -/
def ovR (a b c d : Rat) : Rat := if (if a < c then c else a) < (if b < d then b else d) then (if b < d then b else d) - (if a < c then c else a) else 0
def edgeR (b c : Bx) : Rat := if c.l + c.w = b.l ∨ b.l + b.w = c.l then ovR b.t (b.t + b.h) c.t (c.t + c.h) else if c.t + c.h = b.t ∨ b.t + b.h = c.t then ovR b.l (b.l + b.w) c.l (c.l + c.w) else 0
theorem ovR_symm (a b c d : Rat) : ovR a b c d = ovR c d a b := by
  unfold ovR
  have e1 : (if a < c then c else a) = (if c < a then a else c) := by grind
  have e2 : (if b < d then b else d) = (if d < b then d else b) := by grind
  rw [e1, e2]
theorem edgeR_symm (b c : Bx) : edgeR b c = edgeR c b := by
  unfold edgeR
  rw [ovR_symm b.t, ovR_symm b.l]
  have e1 : (c.l + c.w = b.l ∨ b.l + b.w = c.l) ↔ (b.l + b.w = c.l ∨ c.l + c.w = b.l) := Or.comm
  have e2 : (c.t + c.h = b.t ∨ b.t + b.h = c.t) ↔ (b.t + b.h = c.t ∨ c.t + c.h = b.t) := Or.comm
  simp only [e1, e2]
theorem ovR_zero {a b c d : Rat} (h1 : a < b) (h2 : c < d) (h : b = c ∨ d = a) : ovR a b c d = 0 := by
  unfold ovR
  rw [if_neg]
  grind
theorem Sz.ov {n : Nat} {a b c d : Rat} (ha : Sz n a) (hb : Sz n b) (hc : Sz n c) (hd : Sz n d) : Sz (n + n + 1) (ovR a b c d) := by
  have h1 : Sz n (if a < c then c else a) := by split <;> assumption
  have h2 : Sz n (if b < d then b else d) := by split <;> assumption
  unfold ovR
  by_cases hq : (if a < c then c else a) < (if b < d then b else d)
  · rw [if_pos hq]; exact Sz.sub h2 h1
  · rw [if_neg hq]
    have e : (0 : Rat) = ((0 : Int) : Rat) := rfl
    exact ⟨by show (0 : Nat) < _; exact Nat.two_pow_pos _, by show (1 : Nat) < _; exact Nat.one_lt_two_pow (Nat.succ_ne_zero _)⟩
/-- the law's: both sums -/
def edgeL (b c : Bx) : Rat := (if b.l + b.w = c.l ∨ c.l + c.w = b.l then ovR b.t (b.t + b.h) c.t (c.t + c.h) else 0) + (if b.t + b.h = c.t ∨ c.t + c.h = b.t then ovR b.l (b.l + b.w) c.l (c.l + c.w) else 0)
theorem edge_eq {b c : Bx} (pb : b.Pos) (pc : c.Pos) : edgeL b c = edgeR b c := by
  unfold edgeL edgeR
  have w1 := pb.w
  have w2 := pc.w
  by_cases h1 : b.l + b.w = c.l ∨ c.l + c.w = b.l
  · rw [if_pos h1, if_pos (Or.comm.mp h1)]
    have z : ovR b.l (b.l + b.w) c.l (c.l + c.w) = 0 := ovR_zero (by grind) (by grind) h1
    rw [z]
    split <;> rw [Rat.add_zero]
  · rw [if_neg h1, if_neg (fun z => h1 (Or.comm.mp z)), Rat.zero_add]
    by_cases h2 : b.t + b.h = c.t ∨ c.t + c.h = b.t
    · rw [if_pos h2, if_pos (Or.comm.mp h2)]
    · rw [if_neg h2, if_neg (fun z => h2 (Or.comm.mp z))]
theorem lk_mem {κ α : Type} [DecidableEq κ] : ∀ {kvs : List (κ × α)} {k : κ} {v : α}, (kvs.map (·.1)).Nodup → (k, v) ∈ kvs → lk kvs k = some v
  | q :: r, k, v, nd, h => by
    rw [List.map_cons, List.nodup_cons] at nd
    rcases List.mem_cons.mp h with e | e
    · subst e; exact look_pos rfl
    · rw [look_neg (fun z => nd.1 (List.mem_map.mpr ⟨(k, v), e, z.symm⟩)), lk_mem nd.2 e]
theorem dicZ_bx : ∀ (ns : List Str) (bs : List Bx), dicZ ns (bs.map Bx.d) = (ns.zip bs).map fun q => ((Sum.inr q.1 : Key), q.2.d)
  | [], _ => rfl
  | _ :: _, [] => rfl
  | n :: ns, b :: bs => by
    have e := dicZ_bx ns bs
    simp only [dicZ, List.map_cons, List.zip_cons_cons] at e ⊢
    rw [e]
end DL
namespace DL
open PySem PySem.Spec PyProof.Rows L2
def leS (x y : Str) : Bool := decide (x.cps.toList ≤ y.cps.toList)
theorem leS_lt (x y : Str) : leS x y = !ltCps y.cps.toList x.cps.toList := by
  unfold leS
  rw [ltCps_eq, ← decide_not]
  exact decide_eq_decide.mpr (by rw [List.not_lt])
theorem leS_trans (x y z : Str) (h1 : leS x y = true) (h2 : leS y z = true) : leS x z = true :=
  decide_eq_true (List.le_trans (of_decide_eq_true h1) (of_decide_eq_true h2))
theorem leS_total (x y : Str) : (leS x y || leS y x) = true := by
  rw [Bool.or_eq_true]
  rcases List.le_total x.cps.toList y.cps.toList with h | h
  · exact .inl (decide_eq_true h)
  · exact .inr (decide_eq_true h)
theorem leS_anti {x y : Str} (h1 : leS x y = true) (h2 : leS y x = true) : x = y :=
  Str.ext' (Array.toList_inj.mp (List.le_antisymm (of_decide_eq_true h1) (of_decide_eq_true h2)))
theorem leS_refl (x : Str) : leS x x = true := by
  have := leS_total x x
  rw [Bool.or_self] at this; exact this
def sortN (l : List Str) : List Str := l.mergeSort leS
theorem sortN_perm (l : List Str) : (sortN l).Perm l := List.mergeSort_perm l leS
theorem sortN_pw (l : List Str) : (sortN l).Pairwise fun a b => leS a b = true := List.pairwise_mergeSort leS_trans leS_total l
theorem srt_uniq {l m : List Str} (p : l.Perm m) (h1 : l.Pairwise fun a b => leS a b = true) (h2 : m.Pairwise fun a b => leS a b = true) : l = m :=
  List.Perm.eq_of_pairwise (le := fun a b => leS a b = true) (fun a b _ _ h3 h4 => leS_anti h3 h4) h1 h2 p
theorem sortN_eq {l m : List Str} (p : l.Perm m) : sortN l = sortN m :=
  srt_uniq (((sortN_perm l).trans p).trans (sortN_perm m).symm) (sortN_pw l) (sortN_pw m)
theorem rising_pw : ∀ (p : Str) (l : List Str), risingS p l = true → (p :: l).Pairwise fun a b => leS a b = true
  | p, [], _ => List.pairwise_singleton _ _
  | p, x :: r, h => by
    have h' : (!ltCps x.cps.toList p.cps.toList && risingS x r) = true := h
    rw [Bool.and_eq_true, ← leS_lt] at h'
    have ih := rising_pw x r h'.2
    refine List.pairwise_cons.mpr ⟨fun y hy => ?_, ih⟩
    rcases List.mem_cons.mp hy with e | e
    · rw [e]; exact h'.1
    · exact leS_trans _ _ _ h'.1 ((List.pairwise_cons.mp ih).1 y e)
theorem sorted_pw : ∀ (l : List Str), sortedS l = true → l.Pairwise fun a b => leS a b = true
  | [], _ => .nil
  | x :: r, h => rising_pw x r h
theorem sortN_of {l ys : List Str} (p : ys.Perm l) (h : sortedS ys = true) : ys = sortN l :=
  srt_uniq (p.trans (sortN_perm l).symm) (sorted_pw ys h) (sortN_pw l)
theorem sortN_mem {l : List Str} {x : Str} : x ∈ sortN l ↔ x ∈ l := (sortN_perm l).mem_iff
theorem sortN_nd {l : List Str} (h : l.Nodup) : (sortN l).Nodup := (sortN_perm l).nodup_iff.mpr h
theorem sortN_len (l : List Str) : (sortN l).length = l.length := (sortN_perm l).length_eq
section
variable {α : Type} [DecidableEq α]
/-- a way from a to b behind a -/
def Wk (N : α → List α) : α → List α → α → Prop
  | a, [], b => a = b
  | a, x :: r, b => x ∈ N a ∧ Wk N x r b
variable {N : α → List α}
theorem Wk.app : ∀ {a b c : α} {r s : List α}, Wk N a r b → Wk N b s c → Wk N a (r ++ s) c
  | _, _, _, [], _, h, k => by cases h; exact k
  | _, _, _, x :: r, s, ⟨h1, h2⟩, k => ⟨h1, h2.app k⟩
theorem Wk.snoc {a b c : α} {r : List α} (h : Wk N a r b) (k : c ∈ N b) : Wk N a (r ++ [c]) c := h.app ⟨k, rfl⟩
theorem Wk.last : ∀ {a b : α} {r : List α}, Wk N a r b → (a :: r).getLast? = some b
  | _, _, [], h => by cases h; rfl
  | a, b, x :: r, ⟨h1, h2⟩ => by rw [List.getLast?_cons_cons]; exact h2.last
/-- the way back -/
theorem Wk.back (sy : ∀ x y, y ∈ N x → x ∈ N y) : ∀ {a b : α} {r : List α}, Wk N a r b → ∃ s, s.length = r.length ∧ Wk N b s a
  | _, _, [], h => ⟨[], rfl, h.symm⟩
  | a, b, x :: r, ⟨h1, h2⟩ => by
    obtain ⟨s, e, w⟩ := h2.back sy
    exact ⟨s ++ [a], by rw [List.length_append, e]; rfl, w.snoc (sy _ _ h1)⟩
/-- k is the least length of a way -/
structure Dst (N : α → List α) (a b : α) (k : Nat) : Prop where
  way : ∃ r, r.length = k ∧ Wk N a r b
  min : ∀ r, Wk N a r b → k ≤ r.length
theorem Dst.uniq {a b : α} {k l : Nat} (h : Dst N a b k) (g : Dst N a b l) : k = l := by
  obtain ⟨r, e1, w1⟩ := h.way
  obtain ⟨s, e2, w2⟩ := g.way
  have := h.min s w2
  have := g.min r w1
  omega
theorem Dst.symm (sy : ∀ x y, y ∈ N x → x ∈ N y) {a b : α} {k : Nat} (h : Dst N a b k) : Dst N b a k := by
  obtain ⟨r, e1, w1⟩ := h.way
  obtain ⟨s, e, w⟩ := w1.back sy
  refine ⟨⟨s, by omega, w⟩, fun t wt => ?_⟩
  obtain ⟨u, eu, wu⟩ := wt.back sy
  have := h.min u wu
  omega
theorem Dst.zero (a : α) : Dst N a a 0 := ⟨⟨[], rfl, rfl⟩, fun _ _ => Nat.zero_le _⟩
/-- from what is the widening's end: steps to t -/
structure Lvl (N : α → List α) (t : α) (st : α → Option Nat) : Prop where
  t0 : st t = some 0
  way : ∀ v k, st v = some k → ∃ r, r.length = k ∧ Wk N v r t
  clo : ∀ v k, st v = some k → ∀ y ∈ N v, ∃ l, st y = some l ∧ l ≤ k + 1
theorem Lvl.reach {t : α} {st : α → Option Nat} (h : Lvl N t st) (sy : ∀ x y, y ∈ N x → x ∈ N y) : ∀ {v : α} {r : List α}, Wk N v r t → ∃ k, st v = some k ∧ k ≤ r.length
  | _, [], w => by cases w; exact ⟨0, h.t0, Nat.le_refl _⟩
  | v, x :: r, ⟨h1, h2⟩ => by
    obtain ⟨k, e, hk⟩ := h.reach sy h2
    obtain ⟨l, e2, hl⟩ := h.clo x k e v (sy _ _ h1)
    exact ⟨l, e2, by rw [List.length_cons]; omega⟩
theorem Lvl.dst {t : α} {st : α → Option Nat} (h : Lvl N t st) (sy : ∀ x y, y ∈ N x → x ∈ N y) {v : α} {k : Nat} (e : st v = some k) : Dst N v t k := by
  refine ⟨h.way v k e, fun r w => ?_⟩
  obtain ⟨l, e2, hl⟩ := h.reach sy w
  rw [e] at e2; cases e2; exact hl
/-- the widening: st what has steps, q what waits -/
structure Bfs (N : α → List α) (t : α) (st : List (α × Nat)) (q : List α) : Prop where
  nd : (st.map (·.1)).Nodup
  qn : q.Nodup
  t0 : (t, 0) ∈ st
  way : ∀ v k, (v, k) ∈ st → ∃ r, r.length = k ∧ Wk N v r t
  wait : ∀ v ∈ q, v ∈ st.map (·.1)
  done : ∀ v k, (v, k) ∈ st → v ∉ q → ∀ y ∈ N v, ∃ l, (y, l) ∈ st ∧ l ≤ k + 1
  rise : q.Pairwise fun a b => ∀ k l, (a, k) ∈ st → (b, l) ∈ st → k ≤ l
  top : ∀ a r, q = a :: r → ∀ k, (a, k) ∈ st → ∀ v l, (v, l) ∈ st → l ≤ k + 1
theorem uniq_of_nd {st : List (α × Nat)} (nd : (st.map (·.1)).Nodup) {v : α} {k l : Nat} (h : (v, k) ∈ st) (g : (v, l) ∈ st) : k = l := by
  induction st with
  | nil => cases h
  | cons p st ih =>
    rw [List.map_cons, List.nodup_cons] at nd
    rcases List.mem_cons.mp h with e | e <;> rcases List.mem_cons.mp g with e' | e'
    · rw [← e] at e'; cases e'; rfl
    · exact absurd (List.mem_map.mpr ⟨_, e', by rw [← e]⟩) nd.1
    · exact absurd (List.mem_map.mpr ⟨_, e, by rw [← e']⟩) nd.1
    · exact ih nd.2 e e'
theorem Bfs.start (t : α) : Bfs N t [(t, 0)] [t] := by
  refine ⟨by simp, by simp, by simp, fun v k h => ?_, fun v h => by simpa using h, fun v k h hn => ?_, by simp, fun a r e k h v l g => ?_⟩
  · simp at h; obtain ⟨rfl, rfl⟩ := h; exact ⟨[], rfl, rfl⟩
  · simp at h; obtain ⟨rfl, rfl⟩ := h; simp at hn
  · simp at g h; omega
/-- a turn: the first that waits tells its neighbours that are new -/
theorem Bfs.turn {t a : α} {st : List (α × Nat)} {r : List α} {k : Nat} (h : Bfs N t st (a :: r)) (ha : (a, k) ∈ st) (nn : (N a).Nodup) (sy : ∀ x y, y ∈ N x → x ∈ N y) :
    Bfs N t (st ++ ((N a).filter fun y => decide (y ∉ st.map (·.1))).map fun y => (y, k + 1)) (r ++ (N a).filter fun y => decide (y ∉ st.map (·.1))) := by
  have hnew : ∀ y ∈ (N a).filter (fun y => decide (y ∉ st.map (·.1))), y ∈ N a ∧ y ∉ st.map (·.1) := fun y hy => by
    have := List.mem_filter.mp hy
    exact ⟨this.1, of_decide_eq_true this.2⟩
  generalize hL : (N a).filter (fun y => decide (y ∉ st.map (·.1))) = L at hnew ⊢
  have hall : ∀ y ∈ N a, y ∈ st.map (·.1) ∨ y ∈ L := fun y hy => by
    by_cases e : y ∈ st.map (·.1)
    · exact .inl e
    · exact .inr (by rw [← hL]; exact List.mem_filter.mpr ⟨hy, decide_eq_true e⟩)
  have nL : L.Nodup := by rw [← hL]; exact nn.filter _
  have em : ∀ v l, (v, l) ∈ st ++ L.map (fun y => (y, k + 1)) ↔ (v, l) ∈ st ∨ (v ∈ L ∧ l = k + 1) := fun v l => by
    rw [List.mem_append, List.mem_map]
    constructor
    · rintro (h | ⟨y, hy, e⟩)
      · exact .inl h
      · cases e; exact .inr ⟨hy, rfl⟩
    · rintro (h | ⟨hy, e⟩)
      · exact .inl h
      · exact .inr ⟨v, hy, by rw [e]⟩
  have en : (st ++ L.map (fun y => (y, k + 1))).map (·.1) = st.map (·.1) ++ L := by
    rw [List.map_append, List.map_map]
    congr 1
    rw [show ((fun x : α × Nat => x.1) ∘ fun y => (y, k + 1)) = id from rfl, List.map_id]
  have nr : a ∉ r ∧ r.Nodup := List.nodup_cons.mp h.qn
  have old : ∀ v l, (v, l) ∈ st → v ∉ L := fun v l hv hl => (hnew v hl).2 (List.mem_map.mpr ⟨_, hv, rfl⟩)
  refine ⟨?_, ?_, ?_, ?_, ?_, ?_, ?_, ?_⟩
  · rw [en]
    exact List.nodup_append.mpr ⟨h.nd, nL, fun x hx y hy e => (hnew y hy).2 (e ▸ hx)⟩
  · exact List.nodup_append.mpr ⟨nr.2, nL, fun x hx y hy e => (hnew y hy).2 (e ▸ h.wait x (List.mem_cons_of_mem _ hx))⟩
  · exact (em _ _).mpr (.inl h.t0)
  · intro v l hv
    have hv0 := (em _ _).mp hv
    clear hv
    rcases hv0 with hv | ⟨hv, rfl⟩
    · exact h.way v l hv
    · obtain ⟨s, e, w⟩ := h.way a k ha
      exact ⟨a :: s, by rw [List.length_cons, e], sy _ _ (hnew v hv).1, w⟩
  · intro v hv
    rw [en]
    rcases List.mem_append.mp hv with hv | hv
    · exact List.mem_append.mpr (.inl (h.wait v (List.mem_cons_of_mem _ hv)))
    · exact List.mem_append.mpr (.inr hv)
  · intro v l hv hn y hy
    have hv0 := (em _ _).mp hv
    clear hv
    rcases hv0 with hv | ⟨hv, rfl⟩
    · by_cases e : v = a
      · subst e
        have el : l = k := uniq_of_nd h.nd hv ha
        subst el
        rcases hall y hy with z | z
        · obtain ⟨⟨y', m⟩, hm, ey⟩ := List.mem_map.mp z
          have ey' : y' = y := ey
          subst ey'
          exact ⟨m, (em _ _).mpr (.inl hm), h.top v r rfl l hv y' m hm⟩
        · exact ⟨l + 1, (em _ _).mpr (.inr ⟨z, rfl⟩), Nat.le_refl _⟩
      · have hn' : v ∉ a :: r := fun z => by
          rcases List.mem_cons.mp z with z | z
          · exact e z
          · exact hn (List.mem_append.mpr (.inl z))
        obtain ⟨m, hm, hl⟩ := h.done v l hv hn' y hy
        exact ⟨m, (em _ _).mpr (.inl hm), hl⟩
    · exact absurd (List.mem_append.mpr (.inr hv)) hn
  · have pr := List.pairwise_cons.mp h.rise
    refine List.pairwise_append.mpr ⟨?_, ?_, ?_⟩
    · refine pr.2.imp_of_mem fun {x y} hx hy hxy m n hm hn => ?_
      have hm0 := (em _ _).mp hm
      clear hm
      rcases hm0 with hm | ⟨hm, rfl⟩
      · have hn0 := (em _ _).mp hn
        clear hn
        rcases hn0 with hn | ⟨hn, rfl⟩
        · exact hxy m n hm hn
        · exact h.top a r rfl k ha x m hm
      · exact absurd (h.wait x (List.mem_cons_of_mem _ hx)) (hnew x hm).2
    · refine nL.imp_of_mem fun {x y} hx hy _ m n hm hn => ?_
      have hm0 := (em _ _).mp hm
      clear hm
      rcases hm0 with hm | ⟨hm, rfl⟩
      · exact absurd hx (old x m hm)
      · have hn0 := (em _ _).mp hn
        clear hn
        rcases hn0 with hn | ⟨hn, rfl⟩
        · exact absurd hy (old y n hn)
        · exact Nat.le_refl _
    · intro x hx y hy m n hm hn
      have hn0 := (em _ _).mp hn
      clear hn
      rcases hn0 with hn | ⟨_, rfl⟩
      · exact absurd hy (old y n hn)
      · have hm0 := (em _ _).mp hm
        clear hm
        rcases hm0 with hm | ⟨hm, rfl⟩
        · exact h.top a r rfl k ha x m hm
        · exact Nat.le_refl _
  · intro x s e m hm v l hv
    have hkm : k ≤ m := by
      have hm0 := (em _ _).mp hm
      clear hm
      rcases hm0 with hm | ⟨hm, rfl⟩
      · have hx : x ∈ r := by
          have : x ∈ r ++ L := by rw [e]; exact List.mem_cons_self ..
          rcases List.mem_append.mp this with z | z
          · exact z
          · exact absurd z (old x m hm)
        exact (List.pairwise_cons.mp h.rise).1 x hx k m ha hm
      · omega
    have hv0 := (em _ _).mp hv
    clear hv
    rcases hv0 with hv | ⟨hv, rfl⟩
    · have := h.top a r rfl k ha v l hv
      omega
    · omega
/-- the end -/
theorem Bfs.lvl {t : α} {st : List (α × Nat)} (h : Bfs N t st []) {f : α → Option Nat} (hf : ∀ v k, f v = some k ↔ (v, k) ∈ st) : Lvl N t f :=
  ⟨(hf _ _).mpr h.t0, fun v k e => h.way v k ((hf _ _).mp e), fun v k e y hy => by
    obtain ⟨l, h1, h2⟩ := h.done v k ((hf _ _).mp e) (by simp) y hy
    exact ⟨l, (hf _ _).mpr h1, h2⟩⟩
section
variable (le : α → α → Bool)
def leL : List α → List α → Bool
  | [], _ => true
  | _ :: _, [] => false
  | x :: xs, y :: ys => if x = y then leL xs ys else le x y
end
structure Ord (le : α → α → Bool) : Prop where
  rf : ∀ x, le x x = true
  tr : ∀ x y z, le x y = true → le y z = true → le x z = true
  an : ∀ x y, le x y = true → le y x = true → x = y
  tt : ∀ x y, (le x y || le y x) = true
variable {le : α → α → Bool}
theorem leL_refl : ∀ l : List α, leL le l l = true
  | [] => rfl
  | x :: l => by unfold leL; rw [if_pos rfl]; exact leL_refl l
theorem leL_anti (o : Ord le) : ∀ {l m : List α}, leL le l m = true → leL le m l = true → l = m
  | [], [], _, _ => rfl
  | [], _ :: _, _, h => by cases h
  | _ :: _, [], h, _ => by cases h
  | x :: l, y :: m, h, g => by
    unfold leL at h g
    by_cases e : x = y
    · subst e
      rw [if_pos rfl] at h g
      rw [leL_anti o h g]
    · rw [if_neg e] at h
      rw [if_neg (Ne.symm e)] at g
      exact absurd (o.an _ _ h g) e
theorem leL_trans (o : Ord le) : ∀ {l m n : List α}, leL le l m = true → leL le m n = true → leL le l n = true
  | [], _, _, _, _ => by unfold leL; rfl
  | _ :: _, [], _, h, _ => by cases h
  | _ :: _, _ :: _, [], _, h => by cases h
  | x :: l, y :: m, z :: n, h, g => by
    unfold leL at h g ⊢
    by_cases e : x = y
    · subst e
      rw [if_pos rfl] at h
      by_cases f : x = z
      · subst f
        rw [if_pos rfl] at g ⊢
        exact leL_trans o h g
      · rw [if_neg f] at g ⊢; exact g
    · rw [if_neg e] at h
      by_cases f : y = z
      · subst f
        rw [if_neg e]; exact h
      · rw [if_neg f] at g
        have k := o.tr _ _ _ h g
        by_cases q : x = z
        · subst q
          exact absurd (o.an _ _ h g) e
        · rw [if_neg q]; exact k
theorem leL_total (o : Ord le) : ∀ l m : List α, (leL le l m || leL le m l) = true
  | [], _ => by unfold leL; rfl
  | _ :: _, [] => by unfold leL; rfl
  | x :: l, y :: m => by
    unfold leL
    by_cases e : x = y
    · subst e
      rw [if_pos rfl, if_pos rfl]; exact leL_total o l m
    · rw [if_neg e, if_neg (Ne.symm e)]; exact o.tt x y
theorem leL_app (o : Ord le) : ∀ {l m : List α} (z : List α), l.length = m.length → leL le l m = true → leL le (l ++ z) (m ++ z) = true
  | [], [], z, _, _ => leL_refl z
  | [], _ :: _, _, e, _ => by cases e
  | _ :: _, [], _, e, _ => by cases e
  | x :: l, y :: m, z, e, h => by
    rw [List.cons_append, List.cons_append]
    unfold leL at h ⊢
    by_cases q : x = y
    · rw [if_pos q] at h ⊢
      exact leL_app o z (Nat.succ.inj e) h
    · rw [if_neg q] at h ⊢; exact h
/-- the first of the shortest ways -/
structure FstW (le : α → α → Bool) (N : α → List α) (a b : α) (r : List α) : Prop where
  w : Wk N a r b
  mn : ∀ s, Wk N a s b → r.length ≤ s.length
  fs : ∀ s, Wk N a s b → s.length = r.length → leL le r s = true
theorem FstW.uniq (o : Ord le) {a b : α} {r s : List α} (h : FstW le N a b r) (g : FstW le N a b s) : r = s := by
  have e : r.length = s.length := Nat.le_antisymm (h.mn s g.w) (g.mn r h.w)
  exact leL_anti o (h.fs s g.w e.symm) (g.fs r h.w e)
theorem FstW.nil (a : α) : FstW le N a a [] := ⟨rfl, fun _ _ => Nat.zero_le _, fun s _ _ => by unfold leL; rfl⟩
/-- a step nearer -/
theorem Lvl.near {t a : α} {st : α → Option Nat} (h : Lvl N t st) (sy : ∀ x y, y ∈ N x → x ∈ N y) {k : Nat} (ha : st a = some (k + 1)) {z : α} {r : List α} (hz : z ∈ N a) (w : Wk N z r t) (hr : r.length = k) : st z = some k := by
  obtain ⟨l, e, hl⟩ := h.reach sy w
  obtain ⟨m, e2, hm⟩ := h.clo z l e a (sy _ _ hz)
  rw [ha] at e2
  cases e2
  have : l = k := by omega
  rw [e, this]
theorem Lvl.first {t a y : α} {st : α → Option Nat} (o : Ord le) (h : Lvl N t st) (sy : ∀ x y, y ∈ N x → x ∈ N y) {k : Nat} (ha : st a = some (k + 1)) (hy : y ∈ N a) (hk : st y = some k)
    (hf : ∀ z ∈ N a, st z = some k → le y z = true) {r : List α} (g : FstW le N y t r) : FstW le N a t (y :: r) := by
  have hd := h.dst sy ha
  have hl : r.length = k := by
    obtain ⟨s, e, w⟩ := h.way y k hk
    exact Nat.le_antisymm (by rw [← e]; exact g.mn s w) ((h.dst sy hk).min r g.w)
  refine ⟨⟨hy, g.w⟩, fun s ws => ?_, fun s ws es => ?_⟩
  · have := hd.min s ws
    rw [List.length_cons]; omega
  · cases s with
    | nil => cases es
    | cons z s =>
      have es' : s.length = r.length := Nat.succ.inj es
      have hz := h.near sy ha ws.1 ws.2 (by omega)
      unfold leL
      by_cases e : y = z
      · subst e
        rw [if_pos rfl]; exact g.fs s ws.2 es'
      · rw [if_neg e]; exact hf z ws.1 hz
/-- a way forward that is first stays so by one step -/
theorem fst_step (o : Ord le) {a b : α} {k : Nat} {L : List (List α)} (hb : Dst N a b (k + 1)) (sub : ∀ l ∈ L, ∃ r c, l = r ++ [b] ∧ FstW le N a c r ∧ r.length = k ∧ b ∈ N c)
    (all : ∀ c, Dst N a c k → b ∈ N c → ∃ r, r ++ [b] ∈ L ∧ FstW le N a c r) {l : List α} (hl : l ∈ L) (mn : ∀ m ∈ L, leL le l m = true) : FstW le N a b l := by
  obtain ⟨r, c, rfl, fr, er, hbc⟩ := sub l hl
  refine ⟨fr.w.snoc hbc, fun s ws => by rw [List.length_append, er]; exact hb.min s ws, fun s ws es => ?_⟩
  rw [List.length_append, er, List.length_singleton] at es
  have hs : s ≠ [] := fun e => by rw [e] at es; cases es
  obtain ⟨s', x, rfl⟩ : ∃ s' x, s = s' ++ [x] := ⟨_, _, (List.dropLast_concat_getLast hs).symm⟩
  have split : ∀ {a : α} {s' : List α} {x : α}, Wk N a (s' ++ [x]) b → ∃ d, Wk N a s' d ∧ x ∈ N d ∧ x = b := by
    intro a s'
    induction s' generalizing a with
    | nil => intro x w; exact ⟨a, rfl, w.1, w.2⟩
    | cons y s' ih =>
      intro x w
      obtain ⟨d, w1, w2, w3⟩ := ih w.2
      exact ⟨d, ⟨w.1, w1⟩, w2, w3⟩
  obtain ⟨d, wd, hd, rfl⟩ := split ws
  have es' : s'.length = k := by rw [List.length_append, List.length_singleton] at es; omega
  have dd : Dst N a d k := ⟨⟨s', es', wd⟩, fun u wu => by
    have := hb.min _ (wu.snoc hd)
    rw [List.length_append, List.length_singleton] at this
    omega⟩
  obtain ⟨r2, hr2, f2⟩ := all d dd hd
  have e2 : s'.length = r2.length := by
    have h1 := f2.mn s' wd
    have h2 := dd.min r2 f2.w
    omega
  exact leL_trans o (mn _ hr2) (leL_app o _ e2.symm (f2.fs s' wd e2))
/-- the level before -/
theorem Dst.pred {a b : α} {k : Nat} (h : Dst N a b (k + 1)) : ∃ c, Dst N a c k ∧ b ∈ N c := by
  obtain ⟨s, es, ws⟩ := h.way
  have hs : s ≠ [] := fun e => by rw [e] at es; cases es
  obtain ⟨s', x, rfl⟩ : ∃ s' x, s = s' ++ [x] := ⟨_, _, (List.dropLast_concat_getLast hs).symm⟩
  have split : ∀ {a : α} {s' : List α} {x : α}, Wk N a (s' ++ [x]) b → ∃ d, Wk N a s' d ∧ x ∈ N d ∧ x = b := by
    intro a s'
    induction s' generalizing a with
    | nil => intro x w; exact ⟨a, rfl, w.1, w.2⟩
    | cons y s' ih =>
      intro x w
      obtain ⟨d, w1, w2, w3⟩ := ih w.2
      exact ⟨d, ⟨w.1, w1⟩, w2, w3⟩
  obtain ⟨d, wd, hd, rfl⟩ := split ws
  have es' : s'.length = k := by rw [List.length_append, List.length_singleton] at es; omega
  exact ⟨d, ⟨⟨s', es', wd⟩, fun u wu => by
    have := h.min _ (wu.snoc hd)
    rw [List.length_append, List.length_singleton] at this
    omega⟩, hd⟩
/-- a first way meets nothing twice -/
theorem Wk.nd_of {b : α} : ∀ {a : α} {r : List α}, Wk N a r b → (∀ s, Wk N a s b → r.length ≤ s.length) → (a :: r).Nodup := by
    intro a r
    induction r generalizing a with
    | nil => intro _ _; simp
    | cons x r ih =>
      intro w m
      have hm : ∀ s, Wk N x s b → r.length ≤ s.length := fun s ws => by
        have := m (x :: s) ⟨w.1, ws⟩
        simpa using this
      refine List.nodup_cons.mpr ⟨fun ha => ?_, ih w.2 hm⟩
      obtain ⟨p, q, e⟩ := List.append_of_mem ha
      have tail : ∀ {x : α} {p r q : List α}, x :: r = p ++ a :: q → Wk N x r b → Wk N a q b := by
        intro x p
        induction p generalizing x with
        | nil => intro r q e w3; injection e with e1 e2; rw [← e1, ← e2]; exact w3
        | cons y p ihp =>
          intro r q e w3
          injection e with e1 e2
          rw [e2] at w3
          cases p with
          | nil => exact w3.2
          | cons z p => exact ihp rfl w3.2
      have wq := tail e w.2
      have hq := m q wq
      have : (x :: r).length = (p ++ a :: q).length := by rw [e]
      simp at this hq
      omega
theorem FstW.nd {a b : α} {r : List α} (h : FstW le N a b r) : (a :: r).Nodup := Wk.nd_of h.w h.mn
theorem Wk.mem : ∀ {a b : α} {r : List α}, Wk N a r b → ∀ v ∈ r, ∃ u, v ∈ N u
  | _, _, _ :: _, ⟨h1, h2⟩, v, hv => by
    rcases List.mem_cons.mp hv with e | e
    · exact ⟨_, e ▸ h1⟩
    · exact h2.mem v e
end
section
variable {X : Cx} {K : PySem.W.Frag}
def rSortDS : List V → Hp → VK → Prop := fun xs H Q => ∃ (a : Addr) (kvs : List (Key × V)) (ks : List Str), xs = [.ref a] ∧ Rd H a (.dK kvs) ∧ kvs.map (·.1) = ks.map Sum.inr ∧ ks.length < 64 ∧ ∀ ys p, ys.Perm ks → sortedS ys = true → H p = none → Q (.ref p) (upd H p (.lst (ys.map V.str)))
theorem cr_sortDS (hc : X.calm = true) : CallR X (.builtin "sorted") rSortDS := call_sortedD hc
def oSortDS : DOn := fun ds cs P => ∃ (d : D) (kvs : List (Key × D)) (ks : List Str), ds = [d] ∧ ddAt d cs = some (.inl kvs) ∧ kvs.map (·.1) = ks.map Sum.inr ∧ ks.length < 64 ∧ P (.lst ((sortN ks).map D.str)) cs
theorem adq_sortDS : AdqN K rSortDS oSortDS := fun F cs H xs ds P Q s r ho pe => by
  obtain ⟨d, kvs, ks, rfl, hd, hk, hl, h⟩ := ho
  cases r with
  | cons r1 r2 =>
  cases r2
  obtain ⟨p, vs, rfl, h1, h2⟩ := dd_k s r1 hd
  refine ⟨p, vs, ks, rfl, h1, by rw [h2.keys]; exact hk, hl, fun ys q hp hs hq => ?_⟩
  obtain ⟨s2, e2⟩ := s.new (o := .lst (ys.map V.str)) hq
  rw [← sortN_of hp hs] at h
  exact pe _ cs _ _ s2 (.lst (SqL.of e2) (RepL.ofStrs ys)) h
theorem r_sortDS {kvs : List (Key × D)} {ks : List Str} {cs : Cs} {P : DP} (hk : kvs.map (·.1) = ks.map Sum.inr) (hl : ks.length < 64) (h : P (.lst ((sortN ks).map D.str)) cs) : oSortDS [.dic kvs] cs P := ⟨_, kvs, ks, rfl, rfl, hk, hl, h⟩
end
abbrev NB := List (Str × Bx)
def dicB (nb : NB) : List (Key × D) := nb.map fun q => (Sum.inr q.1, q.2.d)
structure NbOk (nb : NB) : Prop where
  nd : (nb.map (·.1)).Nodup
  len : nb.length < 60
  sz : ∀ q ∈ nb, q.2.Sz 900
  pos : ∀ q ∈ nb, q.2.Pos
def bxOf (nb : NB) (x : Str) : Bx := ((nb.find? fun q => decide (q.1 = x)).map (·.2)).getD ⟨0, 0, 0, 0⟩
theorem dicB_keys (nb : NB) : (dicB nb).map (·.1) = (nb.map (·.1)).map Sum.inr := by unfold dicB; rw [List.map_map, List.map_map]; rfl
theorem dicB_kd (nb : NB) : (dicB nb).map (fun p => kD p.1) = (nb.map (·.1)).map D.str := by unfold dicB; rw [List.map_map, List.map_map]; rfl
theorem dicZ_B (ns : List Str) (bs : List Bx) : dicZ ns (bs.map Bx.d) = dicB (ns.zip bs) := dicZ_bx ns bs
theorem dicB_nd {nb : NB} (nd : (nb.map (·.1)).Nodup) : ((dicB nb).map (·.1)).Nodup := by
  rw [dicB_keys]
  exact List.Pairwise.map _ (fun a b hn e => hn (Sum.inr.inj e)) nd
theorem lk_dicB {nb : NB} (nd : (nb.map (·.1)).Nodup) {x : Str} {b : Bx} (h : (x, b) ∈ nb) : lk (dicB nb) (.inr x) = some b.d := lk_mem (dicB_nd nd) (List.mem_map.mpr ⟨(x, b), h, rfl⟩)
theorem bxOf_mem {nb : NB} (nd : (nb.map (·.1)).Nodup) {x : Str} {b : Bx} (h : (x, b) ∈ nb) : bxOf nb x = b := by
  unfold bxOf
  induction nb with
  | nil => cases h
  | cons q r ih =>
    rw [List.map_cons, List.nodup_cons] at nd
    rcases List.mem_cons.mp h with e | e
    · subst e
      rw [List.find?_cons_of_pos (by simp)]; rfl
    · rw [List.find?_cons_of_neg (by
        simp only [decide_eq_true_eq]
        intro z
        exact nd.1 (z ▸ List.mem_map.mpr ⟨(x, b), e, rfl⟩))]
      exact ih nd.2 e
theorem mem_bx {nb : NB} (nd : (nb.map (·.1)).Nodup) {x : Str} (h : x ∈ nb.map (·.1)) : (x, bxOf nb x) ∈ nb := by
  obtain ⟨⟨y, b⟩, hq, rfl⟩ := List.mem_map.mp h
  rw [bxOf_mem nd hq]; exact hq
theorem lk_bxOf {nb : NB} (nd : (nb.map (·.1)).Nodup) {x : Str} (h : x ∈ nb.map (·.1)) : lk (dicB nb) (.inr x) = some (bxOf nb x).d := lk_dicB nd (mem_bx nd h)
theorem lk_dicB_no {nb : NB} {x : Str} (h : x ∉ nb.map (·.1)) : lk (dicB nb) (.inr x) = none := look_none_of fun z hz e => h (by
  obtain ⟨q, hq, rfl⟩ := List.mem_map.mp hz
  exact List.mem_map.mpr ⟨q, hq, Sum.inr.inj e⟩)
def namesB (nb : NB) : List Str := sortN (nb.map (·.1))
theorem namesB_mem {nb : NB} {x : Str} : x ∈ namesB nb ↔ x ∈ nb.map (·.1) := sortN_mem
def nearAll (nb : NB) (x : Str) : List (Str × Rat) := ((namesB nb).filter fun y => decide (y ≠ x)).map fun y => (y, edgeR (bxOf nb x) (bxOf nb y))
def nearB (nb : NB) (x : Str) : List (Str × Rat) := (nearAll nb x).filter fun q => decide (0 < q.2)
def prR (q : Str × Rat) : D := .tup [.str q.1, dR q.2]
def nearN (nb : NB) (x : Str) : List Str := (nearB nb x).map (·.1)
theorem nearN_eq (nb : NB) (x : Str) : nearN nb x = (namesB nb).filter fun y => decide (y ≠ x) && decide (0 < edgeR (bxOf nb x) (bxOf nb y)) := by
  unfold nearN nearB nearAll
  generalize namesB nb = l
  induction l with
  | nil => rfl
  | cons y l ih =>
    by_cases e : y = x
    · rw [List.filter_cons_of_neg (by simp [e]), List.filter_cons_of_neg (by simp [e])]; exact ih
    · by_cases e2 : 0 < edgeR (bxOf nb x) (bxOf nb y)
      · rw [List.filter_cons_of_pos (by simp [e]), List.filter_cons_of_pos (by simp [e, e2]), List.map_cons, List.filter_cons_of_pos (by simp [e2]), List.map_cons, ih]
      · rw [List.filter_cons_of_pos (by simp [e]), List.filter_cons_of_neg (by simp [e, e2]), List.map_cons, List.filter_cons_of_neg (by simp [e2]), ih]
theorem nearN_mem {nb : NB} {x y : Str} : y ∈ nearN nb x ↔ y ∈ nb.map (·.1) ∧ y ≠ x ∧ 0 < edgeR (bxOf nb x) (bxOf nb y) := by
  rw [nearN_eq, List.mem_filter, namesB_mem, Bool.and_eq_true, decide_eq_true_eq, decide_eq_true_eq]
theorem nearN_sy {nb : NB} : ∀ x y, x ∈ nb.map (·.1) → y ∈ nearN nb x → x ∈ nearN nb y := fun x y hx h => by
  obtain ⟨h1, h2, h3⟩ := nearN_mem.mp h
  exact nearN_mem.mpr ⟨hx, Ne.symm h2, by rw [edgeR_symm]; exact h3⟩
theorem nearN_nd {nb : NB} (h : (nb.map (·.1)).Nodup) (x : Str) : (nearN nb x).Nodup := by
  rw [nearN_eq]
  exact (sortN_nd h).filter _
theorem nearN_pw {nb : NB} (x : Str) : (nearN nb x).Pairwise fun a b => leS a b = true := by
  rw [nearN_eq]
  exact (sortN_pw _).filter _
theorem ordS : Ord leS := ⟨leS_refl, leS_trans, fun _ _ h g => leS_anti h g, leS_total⟩
def stD (st : List (Str × Nat)) : List (Key × D) := st.map fun q => (Sum.inr q.1, D.int (q.2 : Int))
theorem stD_keys (st : List (Str × Nat)) : (stD st).map (·.1) = (st.map (·.1)).map Sum.inr := by unfold stD; rw [List.map_map, List.map_map]; rfl
theorem stD_nd {st : List (Str × Nat)} (nd : (st.map (·.1)).Nodup) : ((stD st).map (·.1)).Nodup := by
  rw [stD_keys]
  exact List.Pairwise.map _ (fun a b hn e => hn (Sum.inr.inj e)) nd
theorem lk_stD {st : List (Str × Nat)} (nd : (st.map (·.1)).Nodup) {v : Str} {k : Nat} (h : (v, k) ∈ st) : lk (stD st) (.inr v) = some (.int (k : Int)) := lk_mem (stD_nd nd) (List.mem_map.mpr ⟨(v, k), h, rfl⟩)
theorem lk_stD_no {st : List (Str × Nat)} {v : Str} (h : v ∉ st.map (·.1)) : lk (stD st) (.inr v) = none := look_none_of fun z hz e => h (by
  obtain ⟨q, hq, rfl⟩ := List.mem_map.mp hz
  exact List.mem_map.mpr ⟨q, hq, Sum.inr.inj e⟩)
theorem lk_stD_is {st : List (Str × Nat)} (nd : (st.map (·.1)).Nodup) (v : Str) : (lk (stD st) (.inr v)).isSome = decide (v ∈ st.map (·.1)) := by
  by_cases h : v ∈ st.map (·.1)
  · obtain ⟨⟨w, k⟩, hq, rfl⟩ := List.mem_map.mp h
    rw [lk_stD nd hq, decide_eq_true h]; rfl
  · rw [lk_stD_no h, decide_eq_false h]; rfl
theorem stD_merge {st more : List (Str × Nat)} (nd : ((st ++ more).map (·.1)).Nodup) : mergeD (stD st) (stD more) = stD (st ++ more) := by
  have e : stD (st ++ more) = stD st ++ stD more := by unfold stD; rw [List.map_append]
  rw [e]
  exact mergeD_app _ _ (by rw [← e]; exact stD_nd nd)
def stF (st : List (Str × Nat)) (v : Str) : Option Nat := (st.find? fun q => decide (q.1 = v)).map (·.2)
theorem stF_iff {st : List (Str × Nat)} (nd : (st.map (·.1)).Nodup) (v : Str) (k : Nat) : stF st v = some k ↔ (v, k) ∈ st := by
  unfold stF
  induction st with
  | nil => simp
  | cons q r ih =>
    rw [List.map_cons, List.nodup_cons] at nd
    by_cases e : q.1 = v
    · subst e
      rw [List.find?_cons_of_pos (by simp)]
      constructor
      · intro h; cases h; exact List.mem_cons_self ..
      · intro h
        rcases List.mem_cons.mp h with e | e
        · rw [← e]; rfl
        · exact absurd (List.mem_map.mpr ⟨_, e, rfl⟩) nd.1
    · rw [List.find?_cons_of_neg (by simpa using e), ih nd.2]
      constructor
      · exact List.mem_cons_of_mem _
      · intro h
        rcases List.mem_cons.mp h with e2 | e2
        · exact absurd (by rw [← e2]) e
        · exact e2
theorem lk_stF {st : List (Str × Nat)} (nd : (st.map (·.1)).Nodup) (v : Str) : lk (stD st) (.inr v) = (stF st v).map fun k => D.int (k : Int) := by
  cases h : stF st v with
  | some k => exact lk_stD nd ((stF_iff nd v k).mp h)
  | none =>
    refine lk_stD_no fun z => ?_
    obtain ⟨⟨w, k⟩, hq, e⟩ := List.mem_map.mp z
    have e' : w = v := e
    subst e'
    rw [(stF_iff nd w k).mpr hq] at h
    cases h
/-- the neighbours of all -/
def besB (nb : NB) : List (Key × D) := nb.map fun q => (Sum.inr q.1, .lst ((nearN nb q.1).map D.str))
theorem lk_bes {nb : NB} (nd : (nb.map (·.1)).Nodup) {x : Str} (h : x ∈ nb.map (·.1)) : lk (besB nb) (.inr x) = some (.lst ((nearN nb x).map D.str)) := by
  obtain ⟨q, hq, rfl⟩ := List.mem_map.mp h
  refine lk_mem ?_ (List.mem_map.mpr ⟨q, hq, rfl⟩)
  unfold besB
  rw [List.map_map, show ((fun p : Key × D => p.1) ∘ fun q : Str × Bx => ((Sum.inr q.1 : Key), D.lst ((nearN nb q.1).map D.str))) = (Sum.inr ∘ fun q : Str × Bx => q.1) from rfl, ← List.map_map]
  exact List.Pairwise.map _ (fun a b hn e => hn (Sum.inr.inj e)) nd
theorem nearN_sub {nb : NB} {x y : Str} (h : y ∈ nearN nb x) : y ∈ nb.map (·.1) := (nearN_mem.mp h).1
theorem nearN_len {nb : NB} (h : NbOk nb) (x : Str) : (nearN nb x).length < 60 := by
  have : (nearN nb x).length ≤ (namesB nb).length := by rw [nearN_eq]; exact List.length_filter_le _ _
  have e : (namesB nb).length = nb.length := by unfold namesB; rw [sortN_len, List.length_map]
  have := h.len
  omega
/-- the neighbours of a name that stands -/
def nbN (nb : NB) (x : Str) : List Str := if x ∈ nb.map (·.1) then nearN nb x else []
theorem nbN_in {nb : NB} {x : Str} (h : x ∈ nb.map (·.1)) : nbN nb x = nearN nb x := if_pos h
theorem nbN_mem {nb : NB} {x y : Str} (h : y ∈ nbN nb x) : x ∈ nb.map (·.1) ∧ y ∈ nearN nb x := by
  unfold nbN at h
  split at h
  · exact ⟨by assumption, h⟩
  · cases h
theorem nbN_sy {nb : NB} (x y : Str) (h : y ∈ nbN nb x) : x ∈ nbN nb y := by
  obtain ⟨h1, h2⟩ := nbN_mem h
  rw [nbN_in (nearN_sub h2)]
  exact nearN_sy x y h1 h2
theorem nbN_nd {nb : NB} (h : (nb.map (·.1)).Nodup) (x : Str) : (nbN nb x).Nodup := by
  unfold nbN
  split
  · exact nearN_nd h x
  · exact List.nodup_nil
theorem nbN_pw {nb : NB} (x : Str) : (nbN nb x).Pairwise fun a b => leS a b = true := by
  unfold nbN
  split
  · exact nearN_pw x
  · exact .nil
theorem nbN_len {nb : NB} (h : NbOk nb) (x : Str) : (nbN nb x).length < 60 := by
  unfold nbN
  split
  · exact nearN_len h x
  · show 0 < 60; decide
theorem plL_strs (l : List Str) {n : Nat} : plL n (l.map D.str) = true := plL_of fun d hd => by
  obtain ⟨w, _, rfl⟩ := List.mem_map.mp hd
  cases n <;> rfl
theorem plD_strs (l : List Str) (h : l.length ≤ 100000) {n : Nat} : plD (n + 1) (.lst (l.map D.str)) = true := plD_lI (plL_strs l) (by rw [List.length_map]; exact h)
end DL
namespace DL
open PySem PySem.Spec PyProof.Rows L2
section
variable {X : Cx}
theorem swD_true {kx vx : Expr} {gs : List Comprehension} {scope : Scope} {pos py : Pos} {y : Str} {l : Nat} {env : PySem.Env} (h1 : env.scope.kind = .function) (h2 : env.scope.names.lookup y = some .local) (h3 : (py.line == pos.line) = true)
    (h4 : (scope.names.any fun (n, k) => n == y && (k == .local || k == .cell)) = false) : swapsWith (.DictComp kx vx gs scope pos) (some (.Name y py)) l env = pure true := by
  have e1 : env.blockKind = .function := by unfold PySem.Env.blockKind; rw [h1]; rfl
  have e2 : env.kindOf y = some .local := h2
  unfold swapsWith
  simp only [e1, e2, h4, Expr.pos, h3]
  rfl
/-- name = {k: v for .. in ..}, in one row -/
theorem ps_setDc {i : Nat} {y : Str} {py pos spos : Pos} {kx vx tg iter : Expr} {ifs : List Expr} {scope : Scope} {own : List (Str × Nat)} {wi : TI} {g : TG} {tt : TT} {tk tv : TE} (hc : X.calm = true) (hN : X.N.Nodup) (hy : X.N[i]? = some y) (hl : X.env.scope.names.lookup y = some .local)
    (hsw : swapsWith (.DictComp kx vx [⟨tg, iter, ifs, 0⟩] scope pos) (some (.Name y py)) spos.line X.env = pure true) (hi : PI X tg iter wi) (ok : BlkOk X.N X.env.scope scope own)
    (hg : ∀ (s0 : Shared) (H0 : Hp) (C0 : Addr) (cl : List (Str × Addr)) (fp : List Addr), PG (X.blk s0 H0 scope (compEnvC scope cl C0 X.env) fp) tg g) (ht : ∀ (s0 : Shared) (H0 : Hp) (C0 : Addr) (cl : List (Str × Addr)) (fp : List Addr), PTs (X.blk s0 H0 scope (compEnvC scope cl C0 X.env) fp) ifs tt)
    (hk : ∀ (s0 : Shared) (H0 : Hp) (C0 : Addr) (cl : List (Str × Addr)) (fp : List Addr), PE (X.blk s0 H0 scope (compEnvC scope cl C0 X.env) fp) kx tk) (he : ∀ (s0 : Shared) (H0 : Hp) (C0 : Addr) (cl : List (Str × Addr)) (fp : List Addr), PE (X.blk s0 H0 scope (compEnvC scope cl C0 X.env) fp) vx tv)
    (hs : ∀ z, foldedSetIterable iter X.env z = pure z := by intro _; rfl) : PS X (.Assign [.Name y py] (.DictComp kx vx [⟨tg, iter, ifs, 0⟩] scope pos) spos) (tAsg (tDc wi g tt tk tv (own.map (·.2))) (gName i)) := by
  refine ⟨fun pins s σ H D I hw => ?_⟩
  rw [exec_Assign_Name_used _ _ _ _ hsw]
  refine wpAny_bind (wpAny_standAt (wpAny_bind ?_))
  show wpAny _ X.A (do let _ ← comprehension (.DictComp kx vx [⟨tg, iter, ifs, 0⟩] scope pos) scope X.env (firstIterPos [⟨tg, iter, ifs, 0⟩] pos) newDict false (eval iter X.env) (some (assign (.Name y py) X.env))) _ _ s
  have hw : tDc wi g tt tk tv (own.map (·.2)) σ H (fun z H1 => gName i z σ H1 D.nx) := hw
  refine wpAny_bind (thn (dc_core (Qf := fun _ s1 => SP X pins D .next s1) hc hN I hi ok hg ht hk he hs hw fun L C s1 m H1 I1 q hn f => ?_) fun _ s1 hq => wpAny_pure (wpAny_pure hq))
  show wpAny _ _ (assign (.Name y py) X.env (.ref L)) _ _ _
  refine wpAny_assign_Name (store_ok2 (v := V.ref L) I1 hN hy (.inl hl) rfl (fun s2 I2 ⟨a, sb, ha⟩ => ?_) (.inr hl))
  obtain ⟨g0, g1, g2, g3, g4, g5⟩ := f
  have ne : C ≠ a := by
    rcases ha with z | z
    · rw [z]; exact g1
    · exact fun e => g4 y a z e.symm
  exact ⟨m, hn.sameBut sb ne, fun h3 sb3 => ⟨_, H1, I2.turned (t' := s2.toks) (fun b o hb e => (sb3.2 b hb).trans e) g0 g1 g3 g4 g5, q⟩⟩
/-- behind a statement the slot's dict changes no more -/
theorem ps_keepLock {st : Stmt} {t : TS} (i : Nat) (h : PS X st t) : PS X st (fun D σ H => t { D with nx := fun σ' H' => ∃ d u, σ'[i]? = some (some (.ref d)) ∧ H' d = some u ∧ Mut (some u) ∧ ∀ od, D.nx σ' (upd H' d (.frz od u)) } σ H) := by
  refine ⟨fun pins s σ H D I hw => wpAny_mono (h.run pins s σ H _ I hw) (fun f s' hq => ?_) fun _ _ z => z⟩
  cases f with
  | ret u => exact hq
  | brk => exact hq
  | cont => exact hq
  | next =>
    obtain ⟨σ1, H1, I1, d, u, hs, hd, mu, q⟩ := hq
    obtain ⟨od, I2⟩ := I1.lock hd mu
    exact ⟨σ1, _, I2, q od⟩
end
section
variable {X : Cx} {W : WX} {K : PySem.W.Frag} {σ : L2.St} {H : Hp}
variable {i : Nat} {y : Str} {py pos spos : Pos} {kx vx tg iter : Expr} {ifs : List Expr} {scope : Scope} {own : List (Str × Nat)} {wi : WI} {g : TG} {gd : WG} {wt : WT} {wk wv : DL.WE}
theorem ds_setDc (hc : X.calm = true) (hN : X.N.Nodup) (hy : X.N[i]? = some y) (hyl : X.env.scope.names.lookup y = some .local)
    (hsw : swapsWith (.DictComp kx vx [⟨tg, iter, ifs, 0⟩] scope pos) (some (.Name y py)) spos.line X.env = pure true) (hi : DI X W tg iter wi) (ok : BlkOk X.N X.env.scope scope own) (gk : GOk X.K g gd (own.map (·.2)))
    (hg : ∀ (s : Shared) (H : Hp) (C : Addr) (cl : List (Str × Addr)) (fp : List Addr), PG (X.blk s H scope (compEnvC scope cl C X.env) fp) tg g)
    (ht : ∀ (s : Shared) (H : Hp) (C : Addr) (cl : List (Str × Addr)) (fp : List Addr), PTs (X.blk s H scope (compEnvC scope cl C X.env) fp) ifs (lT X.K W0 wt))
    (hk : ∀ (s : Shared) (H : Hp) (C : Addr) (cl : List (Str × Addr)) (fp : List Addr), DE (X.blk s H scope (compEnvC scope cl C X.env) fp) W0 kx wk)
    (he : ∀ (s : Shared) (H : Hp) (C : Addr) (cl : List (Str × Addr)) (fp : List Addr), DE (X.blk s H scope (compEnvC scope cl C X.env) fp) W0 vx wv) (hs : ∀ x, foldedSetIterable iter X.env x = pure x := by intro _; rfl) :
    DS X W (.Assign [.Name y py] (.DictComp kx vx [⟨tg, iter, ifs, 0⟩] scope pos) spos) (sAsg (wDcR wi gd wt wk wv (own.map (·.2)) RMK) (gN i)) :=
  PS.imp (ps_setDc hc hN hy hyl hsw hi ok hg ht hk he hs) fun E σ H h => by
    obtain ⟨F, cs, ρ, f, s, re, hw, pe⟩ := h
    have h2 : lE X.K W (wDcR wi gd wt wk wv (own.map (·.2)) RMK) σ H (fun x H1 => gName i x σ H1 E.nx) := ⟨F, cs, ρ, _, _, s, re, hw, fun H1 cs1 v d s1 r1 h1 => pe.nx H1 cs1 _ _ s1 ((re.mono s1.gr).set r1 i) h1, pe.px re⟩
    exact dcK_ok gk h2
/-- behind a statement the slot's dict is data -/
def sLockA (i : Nat) (u : WS) : WS := fun f ρ cs => u { f with nx := fun ρ' cs' => ∃ p kvs, ρ'[i]? = some (some (.opq (.ref p))) ∧ look p cs' = some (.dic kvs) ∧ f.nx (ρ'.set i (some (.dic kvs))) (del p cs') } ρ cs
theorem ds_lockA {st : Stmt} {u : WS} (i : Nat) (h : DS X W st u) : DS X W st (sLockA i u) := PS.imp (ps_keepLock i h) fun E σ H hq => by
  obtain ⟨F, cs, ρ, f, s, re, hw, pe⟩ := hq
  refine ⟨F, cs, ρ, _, s, re, hw, ⟨fun H1 cs1 σ1 ρ1 s1 re1 h1 => ?_, pe.bk, pe.ct, pe.rt, pe.ex⟩⟩
  obtain ⟨p, kvs, hi, hl, h2⟩ := h1
  obtain ⟨v, hv, rv⟩ := re1.get hi
  cases rv
  obtain ⟨vs, e1, q1⟩ := dic_at s1 hl
  refine ⟨p, _, hv, e1, True.intro, fun od => ?_⟩
  obtain ⟨s2, g2, e2⟩ := s1.lockD hl e1 od
  have re2 := (re1.mono g2).set (Rep.dic e2 (q1.mono g2).rk) i
  rw [set_same hv] at re2
  exact pe.nx _ _ σ1 _ s2 re2 h2
theorem q_lockA {i : Nat} {ρ : DL.Env} {cs : Cs} {u : WS} {nx bk ct : DL.Env → Cs → Prop} {rt : D → Cs → Prop} {ex : Exn → DL.Env → Cs → Prop} (h : u ⟨fun ρ' cs' => ∃ p kvs, ρ'[i]? = some (some (.opq (.ref p))) ∧ look p cs' = some (.dic kvs) ∧ nx (ρ'.set i (some (.dic kvs))) (del p cs'), rt, ex, bk, ct⟩ ρ cs) : sLockA i u ⟨nx, rt, ex, bk, ct⟩ ρ cs := h
end
end DL
namespace DL
open PySem PySem.Spec PyProof.Rows L2
structure Grid where
  m : Nat
  n : Nat → Nat
  Y : Nat → Rat
  X : Nat → Nat → Rat
  x0 : Rat
  x1 : Rat
def Grid.cell (G : Grid) (i j : Nat) : Bx := ⟨G.X i j, G.Y i, G.X i (j + 1) - G.X i j, G.Y (i + 1) - G.Y i⟩
def Bx.tr (b : Bx) : Bx := ⟨b.t, b.l, b.h, b.w⟩
def Dn (N : Nat) (r : Rat) : Prop := ∃ z : Int, r * ((N : Int) : Rat) = (z : Rat)
theorem Dn.add {N : Nat} {r s : Rat} (a : Dn N r) (b : Dn N s) : Dn N (r + s) := by
  obtain ⟨z, hz⟩ := a
  obtain ⟨y, hy⟩ := b
  exact ⟨z + y, by rw [Rat.add_mul, hz, hy, Rat.intCast_add]⟩
theorem Dn.sub {N : Nat} {r s : Rat} (a : Dn N r) (b : Dn N s) : Dn N (r - s) := by
  obtain ⟨z, hz⟩ := a
  obtain ⟨y, hy⟩ := b
  refine ⟨z - y, ?_⟩
  rw [Rat.intCast_sub, ← hz, ← hy]; grind
theorem Dn.zero (N : Nat) : Dn N 0 := ⟨0, by rw [Rat.zero_mul]; rfl⟩
theorem Dn.sum {N : Nat} : ∀ {l : List Rat}, (∀ r ∈ l, Dn N r) → Dn N l.sum
  | [], _ => Dn.zero N
  | r :: l, h => by
    rw [List.sum_cons]
    exact (h r (List.mem_cons_self ..)).add (Dn.sum fun s hs => h s (List.mem_cons_of_mem _ hs))
theorem Dn.mul {N : Nat} {x : Rat} (h : Dn N x) (M : Nat) : Dn (N * M) x := by
  obtain ⟨z, hz⟩ := h
  exact ⟨z * M, by rw [Int.natCast_mul, Rat.intCast_mul, ← Rat.mul_assoc, hz, Rat.intCast_mul]⟩
theorem Dn.den (x : Rat) : Dn x.den x := by
  have e := Rat.num_divInt_den x
  rw [Rat.divInt_eq_div] at e
  have hd : (((x.den : Int)) : Rat) ≠ 0 := fun q => den_ne x (Rat.intCast_eq_zero_iff.mp q)
  have e2 := Rat.div_mul_cancel (a := (x.num : Rat)) hd
  rw [e] at e2
  exact ⟨x.num, e2⟩
theorem Dn.sz {N n : Nat} {r : Rat} (h : Dn N r) (hN : 0 < N) (h1 : N < 2 ^ n) {k : Nat} (h2 : 0 ≤ r) (h3 : r < ((2 ^ k : Nat) : Int)) : Sz (n + k) r := by
  obtain ⟨z, hz⟩ := h
  have hN' : (((N : Int)) : Rat) ≠ 0 := fun q => by have := Rat.intCast_eq_zero_iff.mp q; omega
  have hr : r = Rat.divInt z N := by
    rw [Rat.divInt_eq_div, ← hz, Rat.mul_div_cancel hN']
  have z0 : 0 ≤ z := by
    have : (0 : Rat) ≤ (z : Rat) := by rw [← hz]; exact Rat.mul_nonneg h2 (Rat.intCast_nonneg.mpr (by omega))
    exact Rat.intCast_nonneg.mp this
  have z1 : z < (2 ^ k : Nat) * N := by
    have hp : (0 : Rat) < ((N : Int) : Rat) := Rat.intCast_pos.mpr (by omega)
    have := Rat.mul_lt_mul_of_pos_right h3 hp
    rw [hz, ← Rat.intCast_mul] at this
    exact Rat.intCast_lt_intCast.mp this
  rw [hr]
  refine Sz.divInt (n := n + k) (by omega) ?_ ?_ (Nat.le_refl _)
  · have h4 : (2 ^ k : Nat) * N < 2 ^ (n + k) := by
      rw [Nat.pow_add, Nat.mul_comm (2 ^ n)]
      exact Nat.mul_lt_mul_of_pos_left h1 (Nat.two_pow_pos k)
    have h5 : z < ((2 ^ k * N : Nat) : Int) := by rw [Int.natCast_mul]; exact z1
    omega
  · have : 2 ^ n ≤ 2 ^ (n + k) := Nat.pow_le_pow_right (by decide) (by omega)
    omega
end DL
namespace DL
open PySem PySem.Spec PyProof.Rows L2
section
variable {X : Cx} {W : WX} {K : PySem.W.Frag}
def sSetSl (wv wo : DL.WE) (wl wh : WO) : WS := fun f ρ cs => wv ρ cs (fun y cs1 => wo ρ cs1 (fun x cs2 => wl ρ cs2 (fun i cs3 => wh ρ cs3 (fun j cs4 => ∃ (p q : Addr) (xs ys : List D) (a c : Int), x = .opq (.ref p) ∧ y = .opq (.ref q) ∧ i = some a ∧ j = some c ∧ look p cs4 = some (.lst xs) ∧ look q cs4 = some (.lst ys) ∧ p ≠ q ∧
  0 ≤ a ∧ a ≤ c ∧ c ≤ xs.length ∧ xs.length + ys.length ≤ 100000 ∧ f.nx ρ (put p (.lst (xs.take a.toNat ++ ys ++ xs.drop c.toNat)) cs4)) (fun x cs1 => f.ex x ρ cs1)) (fun x cs1 => f.ex x ρ cs1)) (fun x cs1 => f.ex x ρ cs1)) (fun x cs1 => f.ex x ρ cs1)
/-- [..] * n, a list that will change -/
def wLRepM (w : WA) (wb : DL.WE) : DL.WE := fun ρ cs P Z => w ρ cs (fun ds cs1 => wb ρ cs1 (fun y cs2 => ∃ k : Nat, y = .int (k : Int) ∧ ds.length * k ≤ 100000 ∧ k ≤ 100000 ∧ ∀ q, q ∉ adr cs2 → P (.opq (.ref q)) ((q, .lst (List.replicate k ds).flatten) :: cs2)) Z) Z
end
section
variable {ρ : DL.Env} {cs : Cs} {P : DP} {Z : XZ} {w : WA} {wb wv wo : DL.WE} {wl wh : WO} {nx bk ct : DL.Env → Cs → Prop} {rt : D → Cs → Prop} {ex : Exn → DL.Env → Cs → Prop}
theorem q_setSl (h : wv ρ cs (fun y cs1 => wo ρ cs1 (fun x cs2 => wl ρ cs2 (fun i cs3 => wh ρ cs3 (fun j cs4 => ∃ (p q : Addr) (xs ys : List D) (a c : Int), x = .opq (.ref p) ∧ y = .opq (.ref q) ∧ i = some a ∧ j = some c ∧ look p cs4 = some (.lst xs) ∧ look q cs4 = some (.lst ys) ∧ p ≠ q ∧
  0 ≤ a ∧ a ≤ c ∧ c ≤ xs.length ∧ xs.length + ys.length ≤ 100000 ∧ nx ρ (put p (.lst (xs.take a.toNat ++ ys ++ xs.drop c.toNat)) cs4)) (fun x cs1 => ex x ρ cs1)) (fun x cs1 => ex x ρ cs1)) (fun x cs1 => ex x ρ cs1)) (fun x cs1 => ex x ρ cs1)) : sSetSl wv wo wl wh ⟨nx, rt, ex, bk, ct⟩ ρ cs := h
theorem r_lrepM (h : w ρ cs (fun ds cs1 => wb ρ cs1 (fun y cs2 => ∃ k : Nat, y = .int (k : Int) ∧ ds.length * k ≤ 100000 ∧ k ≤ 100000 ∧ ∀ q, q ∉ adr cs2 → P (.opq (.ref q)) ((q, .lst (List.replicate k ds).flatten) :: cs2)) Z) Z) : wLRepM w wb ρ cs P Z := h
end
def lnR (r : Rat) (W n : Int) : Int := -(((r.den : Int) * W - 2 * (r.num * n)) / (2 * ((r.den : Int) * W)))
def covS (W H C R : Int) (b : Bx) (r c : Nat) : Bool := (decide (lnR b.l W C ≤ (c : Int)) && decide ((c : Int) < lnR (b.l + b.w) W C)) && (decide (lnR b.t H R ≤ (r : Int)) && decide ((r : Int) < lnR (b.t + b.h) H R))
def cellS (W H C R : Int) (nb : NB) (r c : Nat) : Str := nb.foldl (fun acc q => if covS W H C R q.2 r c = true then q.1 else acc) ""
def rowF (f : Nat → Nat → Str) (C r : Nat) : List Str := (List.range C).map (f r)
/-- the rows at ps, told at q; what stood ahead (cs) stands -/
structure RowsAt (cs : Cs) (f : Nat → Nat → Str) (R C : Nat) (q : Addr) (ps : List Addr) (cs' : Cs) : Prop where
  out : look q cs' = some (.lst (ps.map fun p => .opq (.ref p)))
  len : ps.length = R
  row : ∀ (r : Nat) (p : Addr), ps[r]? = some p → look p cs' = some (.lst ((rowF f C r).map D.str))
  nd : ps.Nodup
  qn : q ∉ ps
  fr : ∀ a m, look a cs = some m → look a cs' = some m ∧ a ≠ q ∧ a ∉ ps
theorem RowsAt.put {cs cs' : Cs} {f : Nat → Nat → Str} {R C r : Nat} {q p : Addr} {ps : List Addr} (h : RowsAt cs f R C q ps cs') (hp : ps[r]? = some p) {g : Nat → Nat → Str} (hg : ∀ j, j ≠ r → rowF g C j = rowF f C j) : RowsAt cs g R C q ps (put p (.lst ((rowF g C r).map D.str)) cs') := by
  have hm := List.mem_of_getElem? hp
  have hq : q ≠ p := fun e => h.qn (e ▸ hm)
  refine ⟨by rw [look_put_ne hq]; exact h.out, h.len, fun j p' hj => ?_, h.nd, h.qn, fun a m ha => ?_⟩
  · by_cases e : p' = p
    · subst e
      have ej : j = r := by
        obtain ⟨hj1, hj2⟩ := List.getElem?_eq_some_iff.mp hj
        obtain ⟨hr1, hr2⟩ := List.getElem?_eq_some_iff.mp hp
        exact (List.getElem_inj h.nd).mp (hj2.trans hr2.symm)
      subst ej
      exact look_put (h.row j p' hj)
    · rw [look_put_ne e, hg j (fun ej => e (by subst ej; rw [hj] at hp; exact Option.some.inj hp))]
      exact h.row j p' hj
  · obtain ⟨a1, a2, a3⟩ := h.fr a m ha
    have hap : a ≠ p := fun e => a3 (by rw [e]; exact hm)
    exact ⟨by rw [look_put_ne hap]; exact a1, a2, a3⟩
end DL
namespace DL
open PySem PySem.Spec PyProof.Rows L2
theorem nbOk_laid {ns : List Str} {bx : Bx} {ws zs : List Int} {dn : Bool} (hp : bx.Pos) (hs : bx.Sz 202) (hw : WtOk ws) (hz : SzOk zs ws.length) (hn : NamesOk ns ws.length) : NbOk (ns.zip (laidB bx ws zs dn)) := by
  have hlz : ns.length = (laidB bx ws zs dn).length := by rw [hn.len, laid_len bx dn hz]
  have hm : ∀ q ∈ ns.zip (laidB bx ws zs dn), q.2 ∈ laidB bx ws zs dn := fun q hq => (List.of_mem_zip (a := q.1) (b := q.2) hq).2
  refine ⟨by rw [List.map_fst_zip (by omega)]; exact hn.nd, by rw [List.length_zip, hlz, laid_len bx dn hz]; have := hw.l1; omega, fun q hq => ?_, fun q hq => ?_⟩
  · exact (laid_mem hp hw.wok hz dn hs (hm q hq)).2.1.mono (by decide)
  · exact (laid_mem hp hw.wok hz dn hs (hm q hq)).1
theorem dicB_pl (nb : NB) : ∀ p ∈ dicB nb, plD 20 p.2 = true := fun p hp => by
  obtain ⟨q, _, rfl⟩ := List.mem_map.mp hp
  exact plD_Bx q.2 (n := 18)
end DL
namespace DL
open PySem PySem.Spec PyProof.Rows L2
theorem lk_some {κ α : Type} [DecidableEq κ] : ∀ {l : List (κ × α)} {k : κ} {v : α}, lk l k = some v → (k, v) ∈ l
  | [], _, _, h => by cases h
  | q :: r, k, v, h => by
    by_cases e : q.1 = k
    · rw [look_pos e] at h
      cases h
      subst e
      exact List.mem_cons_self ..
    · rw [look_neg e] at h
      exact List.mem_cons_of_mem _ (lk_some h)
/-- equal dicts, in whatever order their keys stand -/
def hasD (ls : List (Key × D)) (p : Key × D) : Bool := match lk ls p.1 with
  | some u => eqD p.2 u
  | none => false
def eqDic (ks ls : List (Key × D)) : Bool := (ks.length == ls.length) && ks.all (hasD ls)
theorem hits_D {X : Cx} {pins : List (Addr × Obj)} {σ : L2.St} {H G : Hp} {s : Shared} {A : Around} (I : Inv X pins σ H s) (e : Ex G H) (hu : A.units + 40 < cLine) {ls : List (Key × V)} {vb : List (Key × Value)} {lsd : List (Key × D)} (rb : KV ls vb)
    (rl : RG X.K G ls lsd) (pl : ∀ p ∈ lsd, plD 20 p.2 = true) {ks : List (Key × V)} {va : List (Key × Value)} {ksd : List (Key × D)} (ra : KV ks va) (rk : RG X.K G ks ksd) (pk : ∀ p ∈ ksd, plD 20 p.2 = true) :
    PySem.W.KeqHits A s vb va (ksd.all (hasD lsd)) := by
  unfold KV at ra
  induction ra generalizing ksd with
  | nil => cases rk; exact .nil
  | @cons p q ps qs h t ih =>
    cases rk with
    | @cons k v vs d ds r1 r2 =>
    have ih := ih r2 fun p hp => pk p (List.mem_cons_of_mem _ hp)
    have hd := pk (k, d) (List.mem_cons_self ..)
    obtain ⟨key, u⟩ := q
    obtain ⟨e1, e2⟩ := h
    have e1' : k = key := e1
    subst e1'
    have rr := rb.val k
    have rq := rl.val k
    rw [List.all_cons]
    unfold hasD
    cases hlk : lk lsd k with
    | none =>
      have hv : valV ls k = none := by rw [hlk] at rq; have := rq.isSome; cases hx : valV ls k with
        | none => rfl
        | some _ => rw [hx] at this; cases this
      rw [hv] at rr
      have hn : valueAt vb k = none := by
        cases hx : valueAt vb k with
        | none => rfl
        | some _ => rw [hx] at rr; cases rr
      show PySem.W.KeqHits A s vb ((k, u) :: qs) (false && _)
      rw [Bool.false_and]
      exact .miss hn
    | some d2 =>
      rw [hlk] at rq
      obtain ⟨v2, hv2, r3⟩ := rq.some_
      have hd2 := pl (k, d2) (lk_some hlk)
      rw [hv2] at rr
      obtain ⟨y, hy, ry⟩ := rr.some_of
      have a1 := plD_plain d 20 hd
      have a2 := plD_plain d2 20 hd2
      obtain ⟨as, q1⟩ := Dp.reads I _ _ u (Rep.dp e 20 r1 hd) e2
      obtain ⟨bs, q2⟩ := Dp.reads I _ _ y (Rep.dp e 20 r3 hd2) ry
      refine .hit hy ?_ ih
      have z := SeqAt.eqAt_plain (pyD d) (pyD d2) A s u y as bs q1 q2 a1.1 a2.1 (by have := Nat.min_le_left (pyD d).depth (pyD d2).depth; have := a1.2; omega)
      rw [eqD_eqv d d2 20 20 hd hd2] at z
      exact z
section
variable {X : Cx} {W : WX} {K : PySem.W.Frag} {a b : Expr} {wa wb : DL.WE} {pos : Pos}
def rDic (K : PySem.W.Frag) (f : Bool → Bool) : R2 := fun x y H Q => ∃ (a b : Addr) (xs ys : List (Key × V)) (ks ls : List (Key × D)) (G : Hp), x = .ref a ∧ y = .ref b ∧ Rd H a (.dK xs) ∧ Rd H b (.dK ys) ∧ Ex G H ∧ RG K G xs ks ∧ RG K G ys ls ∧ (∀ p ∈ ks, plD 20 p.2 = true) ∧ (∀ p ∈ ls, plD 20 p.2 = true) ∧ Q (.bl (f (eqDic ks ls))) H
theorem op_neDic (hu : X.A.units + 64 < cLine) : OpR X (compareOp .NotEq) (rDic X.K not) := by
  intro pins s σ H x y v u Q I rx ry h
  obtain ⟨a, b, xs, ys, ks, ls, G, rfl, rfl, ha, hb, e, r1, r2, p1, p2, q⟩ := h
  cases rx; cases ry
  obtain ⟨_, ya, va, ra, da⟩ := dk_rd I.hok ha
  obtain ⟨_, yb, vb, rb, db⟩ := dk_rd I.hok hb
  refine PySem.W.keq_ne (knd := mixKind X.prog X.w) ya yb da db (by omega) (fun _ => hits_D I e (A := X.A.in1) (by show X.A.units + 1 + 40 < cLine; omega) rb r2 p2 ra r1 p1) ⟨.bl _, H, I, rfl, ?_⟩
  rw [← ra.length, ← rb.length, r1.length, r2.length]
  exact q
def oDic (f : Bool → Bool) : DO2 := fun x y cs P => ∃ ks ls, ddAt x cs = some (.inl ks) ∧ ddAt y cs = some (.inl ls) ∧ (∀ p ∈ ks, plD 20 p.2 = true) ∧ (∀ p ∈ ls, plD 20 p.2 = true) ∧ P (.bl (f (eqDic ks ls))) cs
theorem adq_dic {f : Bool → Bool} : Adq K (rDic K f) (oDic f) := fun F cs H x y dx dy P Q s rx ry ho pe => by
  obtain ⟨ks, ls, h1, h2, p1, p2, h⟩ := ho
  obtain ⟨a, xs, rfl, q1, q2⟩ := dd_k s rx h1
  obtain ⟨b, ys, rfl, q3, q4⟩ := dd_k s ry h2
  exact ⟨a, b, xs, ys, ks, ls, _, rfl, rfl, q1, q3, pur_le, q2, q4, p1, p2, pe H cs _ _ s (.bl _) h⟩
theorem dt_neDic (hu : X.A.units + 64 < cLine) (ha : DE X W a wa) (hb : DE X W b wb) : DT X W (.Compare a [.NotEq] [b] pos) (wTest (wOp (oDic not) wa wb)) := dt_cmp (op_neDic hu) adq_dic ha hb (nomark _)
theorem r_neDic {ks ls : List (Key × D)} {cs : Cs} {P : DP} (p1 : ∀ p ∈ ks, plD 20 p.2 = true) (p2 : ∀ p ∈ ls, plD 20 p.2 = true) (h : P (.bl (!eqDic ks ls)) cs) : oDic not (.dic ks) (.dic ls) cs P := ⟨ks, ls, rfl, rfl, p1, p2, h⟩
theorem eqDic_perm {ks ls : List (Key × D)} (hp : ks.Perm ls) (nd : (ls.map (·.1)).Nodup) (pl : ∀ p ∈ ls, plD 20 p.2 = true) : eqDic ks ls = true := by
  unfold eqDic
  rw [Bool.and_eq_true, beq_iff_eq, List.all_eq_true]
  refine ⟨hp.length_eq, fun p hm => ?_⟩
  have hm' := hp.mem_iff.mp hm
  unfold hasD
  rw [lk_mem nd (show (p.1, p.2) ∈ ls from hm')]
  exact eqD_refl _ 20 (pl p hm')
theorem eqDic_self {ls : List (Key × D)} (nd : (ls.map (·.1)).Nodup) (pl : ∀ p ∈ ls, plD 20 p.2 = true) : eqDic ls ls = true := eqDic_perm (List.Perm.refl _) nd pl
def rListDD : List V → Hp → VK → Prop := fun xs H Q => ∃ (a : Addr) (kvs : List (Key × V)), xs = [.ref a] ∧ Rd H a (.dK kvs) ∧ ∀ p, H p = none → Q (.ref p) (upd H p (.lst (kvs.map fun kv => kV kv.1)))
theorem cr_listDD (hc : X.calm = true) : CallR X (.type "list") rListDD := call_listD hc
def oListDD : DOn := fun ds cs P => ∃ (d : D) (kvs : List (Key × D)), ds = [d] ∧ ddAt d cs = some (.inl kvs) ∧ P (.lst (kvs.map fun p => kD p.1)) cs
theorem RG.kds {G : Hp} {xs : List (Key × V)} {ds : List (Key × D)} (h : RG K G xs ds) : RepL K G (xs.map fun p => kV p.1) (ds.map fun p => kD p.1) := by
  have e := h.keys
  rw [show (xs.map fun p => kV p.1) = (xs.map (·.1)).map kV by rw [List.map_map]; rfl, show (ds.map fun p => kD p.1) = (ds.map (·.1)).map kD by rw [List.map_map]; rfl, e]
  exact ksD_rep _
theorem adq_listDD : AdqN K rListDD oListDD := fun F cs H xs ds P Q s r ho pe => by
  obtain ⟨d, kvs, rfl, hd, h⟩ := ho
  cases r with
  | cons r1 r2 =>
  cases r2
  obtain ⟨p, vs, rfl, h1, h2⟩ := dd_k s r1 hd
  refine ⟨p, vs, rfl, h1, fun q hq => ?_⟩
  obtain ⟨s2, e2⟩ := s.new (o := .lst (vs.map fun kv => kV kv.1)) hq
  exact pe _ cs _ _ s2 (.lst (SqL.of e2) (h2.kds.mono s2.gr)) h
def oListDM : DOn := fun ds cs P => ∃ (d : D) (kvs : List (Key × D)), ds = [d] ∧ ddAt d cs = some (.inl kvs) ∧ ∀ q, q ∉ adr cs → P (.opq (.ref q)) ((q, .lst (kvs.map fun p => kD p.1)) :: cs)
theorem r_listDD {kvs : List (Key × D)} {cs : Cs} {P : DP} (h : P (.lst (kvs.map fun p => kD p.1)) cs) : oListDD [.dic kvs] cs P := ⟨_, kvs, rfl, rfl, h⟩
theorem r_listDM {kvs : List (Key × D)} {cs : Cs} {P : DP} (h : ∀ q, q ∉ adr cs → P (.opq (.ref q)) ((q, .lst (kvs.map fun p => kD p.1)) :: cs)) : oListDM [.dic kvs] cs P := ⟨_, kvs, rfl, rfl, h⟩
def rDictDD : List V → Hp → VK → Prop := fun xs H Q => ∃ (a : Addr) (kvs : List (Key × V)), xs = [.ref a] ∧ Rd H a (.dK kvs) ∧ ∀ p, H p = none → Q (.ref p) (upd H p (.dK kvs))
theorem cr_dictDD : CallR X (.type "dict") rDictDD := call_dictD
def oDictDD : DOn := fun ds cs P => ∃ (d : D) (kvs : List (Key × D)), ds = [d] ∧ ddAt d cs = some (.inl kvs) ∧ ∀ q, q ∉ adr cs → P (.opq (.ref q)) ((q, .dic kvs) :: cs)
theorem adq_dictDD : AdqN K rDictDD oDictDD := fun F cs H xs ds P Q s r ho pe => by
  obtain ⟨d, kvs, rfl, hd, h⟩ := ho
  cases r with
  | cons r1 r2 =>
  cases r2
  obtain ⟨p, vs, rfl, h1, h2⟩ := dd_k s r1 hd
  refine ⟨p, vs, rfl, h1, fun q hq => ?_⟩
  have s2 := s.newM (m := .dic kvs) (o := .dK vs) hq h2.rk
  exact pe _ _ _ _ s2 (.opq _) (h q (s.notin hq).2)
theorem r_dictDD {kvs : List (Key × D)} {cs : Cs} {P : DP} (h : ∀ q, q ∉ adr cs → P (.opq (.ref q)) ((q, .dic kvs) :: cs)) : oDictDD [.dic kvs] cs P := ⟨_, kvs, rfl, rfl, h⟩
end
end DL
namespace DL
open PySem PySem.Spec PyProof.Rows L2
section
variable {K : PySem.W.Frag} {F G0 H : Hp} {cs : Cs}
theorem adr_sub {g : Addr × MO → Bool} {a : Addr} (h : a ∈ adr (cs.filter g)) : a ∈ adr cs := by
  obtain ⟨q, hq, rfl⟩ := List.mem_map.mp h
  exact List.mem_map.mpr ⟨q, (List.mem_filter.mp hq).1, rfl⟩
theorem Sta.sub (s : Sta K F G0 cs H) (g : Addr × MO → Bool) : Sta K F G0 (cs.filter g) H ∧ Ex (pur F cs H) (pur F (cs.filter g) H) := by
  have e : Ex (pur F cs H) (pur F (cs.filter g) H) := fun b u hb => by
    obtain ⟨e1, e2, e3⟩ := pur_of hb
    rw [pur_at e2 fun z => e3 (adr_sub z)]; exact e1
  refine ⟨⟨s.fr, s.gr.trans e, List.Nodup.sublist ((List.filter_sublist).map _) s.nd, fun a h => s.ap a (adr_sub h), fun a m h => ?_, s.ft⟩, e⟩
  obtain ⟨u, hu, r⟩ := s.ow a m (List.mem_filter.mp h).1
  exact ⟨u, hu, r.mono e⟩
/-- two things at one place -/
theorem nd_at : ∀ {cs : Cs} {a : Addr} {m n : MO}, (adr cs).Nodup → (a, m) ∈ cs → (a, n) ∈ cs → m = n
  | q :: r, a, m, n, nd, h1, h2 => by
    obtain ⟨n1, n2⟩ := List.nodup_cons.mp (show (q.1 :: adr r).Nodup from nd)
    rcases List.mem_cons.mp h1 with e1 | e1 <;> rcases List.mem_cons.mp h2 with e2 | e2
    · rw [← e1] at e2; cases e2; rfl
    · exact absurd (List.mem_map.mpr ⟨_, e2, by rw [← e1]⟩) n1
    · exact absurd (List.mem_map.mpr ⟨_, e1, by rw [← e2]⟩) n1
    · exact nd_at n2 e1 e2
theorem out_of {g : Addr × MO → Bool} (nd : (adr cs).Nodup) {p : Addr} {m : MO} (h : (p, m) ∈ cs) (hg : g (p, m) = false) : p ∉ adr (cs.filter g) := fun z => by
  obtain ⟨⟨a, n⟩, hq, e⟩ := List.mem_map.mp z
  have e' : a = p := e
  subst e'
  obtain ⟨h1, h2⟩ := List.mem_filter.mp hq
  rw [nd_at nd h1 h, hg] at h2
  cases h2
mutual
theorem Lend.frz {g : Addr × MO → Bool} (s : Sta K F G0 cs H) : ∀ {d d' : D} {v : V}, Lend (cs.filter fun q => !g q) d d' → Rep K (pur F cs H) v d → Rep K (pur F (cs.filter g) H) v d'
  | _, _, _, .same d, r => r.mono (s.sub g).2
  | _, _, _, .at_ (p := p) (xs := xs) hl l, r => by
    cases r
    have hm := List.mem_filter.mp (look_mem hl)
    obtain ⟨o, e, m⟩ := s.ow p _ hm.1
    have hg : g (p, MO.lst xs) = false := by simpa using hm.2
    have hp : p ∈ adr cs := List.mem_map.mpr ⟨_, hm.1, rfl⟩
    cases o <;> try exact m.elim
    exact .lst (SqL.of (by rw [pur_at (s.ap p hp) (out_of s.nd hm.1 hg)]; exact e)) (LendL.frz s l m)
  | _, _, _, .tup l, r => by
    cases r with
    | tup h r => exact .tup (ex_t (s.sub g).2 h) (LendL.frz s l r)
  | _, _, _, .lst l, r => by
    cases r with
    | lst h r => exact .lst (ex_l (s.sub g).2 h) (LendL.frz s l r)
theorem LendL.frz {g : Addr × MO → Bool} (s : Sta K F G0 cs H) : ∀ {d d' : List D} {v : List V}, LendL (cs.filter fun q => !g q) d d' → RepL K (pur F cs H) v d → RepL K (pur F (cs.filter g) H) v d'
  | _, _, _, .nil, r => by cases r; exact .nil
  | _, _, _, .cons l ls, r => by
    cases r with
    | cons r rs => exact .cons (Lend.frz s l r) (LendL.frz s ls rs)
end
end
section
variable {X : Cx} {W : WX} {K : PySem.W.Frag} {e : Expr} {we : DL.WE}
/-- a value with all that may change in it is from now on data -/
def wFrzD (we : DL.WE) : DL.WE := fun ρ cs P Z => we ρ cs (fun d cs1 => ∃ (g : Addr × MO → Bool) (d' : D), Lend (cs1.filter fun q => !g q) d d' ∧ P d' (cs1.filter g)) Z
theorem r_frzD {ρ : DL.Env} {cs : Cs} {P : DP} {Z : XZ} (h : we ρ cs (fun d cs1 => ∃ (g : Addr × MO → Bool) (d' : D), Lend (cs1.filter fun q => !g q) d d' ∧ P d' (cs1.filter g)) Z) : wFrzD we ρ cs P Z := h
end
theorem fold_one {α : Type} {p : α → Bool} {nm : α → Str} : ∀ {l : List α} {a : α} {z : Str}, a ∈ l → p a = true → (∀ b ∈ l, p b = true → b = a) → l.foldl (fun acc q => if p q = true then nm q else acc) z = nm a
  | q :: l, a, z, ha, pa, hu => by
    rw [List.foldl_cons]
    by_cases e : a ∈ l
    · exact fold_one e pa fun b hb => hu b (List.mem_cons_of_mem _ hb)
    · have eq : a = q := by
        rcases List.mem_cons.mp ha with h | h
        · exact h
        · exact absurd h e
      subst eq
      rw [if_pos pa]
      have : ∀ (l : List α) (z : Str), (∀ b ∈ l, p b = false) → l.foldl (fun acc q => if p q = true then nm q else acc) z = z := by
        intro l
        induction l with
        | nil => intro z _; rfl
        | cons b l ih =>
          intro z h
          rw [List.foldl_cons, h b (List.mem_cons_self ..)]
          exact ih z fun c hc => h c (List.mem_cons_of_mem _ hc)
      exact this l _ fun b hb => by
        cases hp : p b with
        | false => rfl
        | true => exact absurd (hu b (List.mem_cons_of_mem _ hb) hp ▸ hb) e
/-- the things of boxes that part a whole: each square lies in one -/
def OneAt (W H : Int) (C R : Nat) (nb : NB) : Prop := ∀ r c, r < R → c < C → ∃ q ∈ nb, covS W H C R q.2 r c = true ∧ ∀ q' ∈ nb, covS W H C R q'.2 r c = true → q' = q
theorem OneAt.cell {W H : Int} {C R : Nat} {nb : NB} (h : OneAt W H C R nb) {r c : Nat} (hr : r < R) (hc : c < C) : ∃ q ∈ nb, cellS W H C R nb r c = q.1 ∧ covS W H C R q.2 r c = true ∧ ∀ q' ∈ nb, covS W H C R q'.2 r c = true → q' = q := by
  obtain ⟨q, hq, hcov, hu⟩ := h r c hr hc
  exact ⟨q, hq, fold_one (p := fun q : Str × Bx => covS W H C R q.2 r c) (nm := fun q => q.1) hq hcov hu, hcov, hu⟩
section
variable {X : Cx} {W : WX} {K : PySem.W.Frag} {e : Expr} {w : WA} {pos : Pos}
def enumD (xs : List D) : List D := xs.mapIdx fun i x => D.tup [.int (i : Int), x]
theorem yi_enum {G : Hp} {a : Addr} {xs : List V} {ds : List D} (h : SqL K G a xs) (r : RepL K G xs ds) : YI K (Ite K a) G (enumD ds) where
  go := fun i d q F cs H s => by
    unfold enumD at q
    rw [List.getElem?_mapIdx] at q
    obtain ⟨x, hx, _⟩ := Option.map_eq_some_iff.mp q
    obtain ⟨v, hv, _⟩ := r.get hx
    exact ⟨xs, v, ex_l (s.gr.trans pur_le) h, hv⟩
  yld := fun i d q F cs H y H' s hy => by
    unfold enumD at q
    rw [List.getElem?_mapIdx] at q
    obtain ⟨x, hx, rfl⟩ := Option.map_eq_some_iff.mp q
    obtain ⟨v, hv, rv⟩ := r.get hx
    obtain ⟨T, u, rfl, hT, rfl, k⟩ := hy
    have k1 := k xs (ex_l (s.gr.trans pur_le) h)
    rw [hv] at k1
    obtain rfl := Option.some.inj k1
    obtain ⟨s2, e3⟩ := s.new (o := .tup [.int (i : Nat), v]) hT
    exact ⟨s2, .tup (SqT.of e3) (.cons (.int _) (.cons (rv.mono (s.gr.trans s2.gr)) .nil))⟩
  stop := fun F cs H s => ⟨xs, ex_l (s.gr.trans pur_le) h, by unfold enumD; rw [List.length_mapIdx, r.length]; exact Nat.le_refl _⟩
def iEn (w : WA) : WI := fun ρ cs P Z => w ρ cs (fun ds cs1 => ∃ xs, ds = [.lst xs] ∧ P (enumD xs) cs1) Z
theorem di_enum {p tpos : Pos} {elts : List Expr} {kk : Nat} (hg : Gl X "enumerate") (hm : X.mg "enumerate" = none) (ha : DA X W [e] w) (hs : starEach [e] X.env = [(false, eval e X.env)] := by rfl) :
    DI X W (.Tuple elts kk tpos) (.Call (.Name "enumerate" p) [e] [] pos) (iEn w) := PI.imp (pi_enum hg hm ha hs) fun σ H R hq => by
  obtain ⟨F, cs, ρ, P, Z, s, re, hw, pe, px⟩ := hq
  refine ⟨F, cs, ρ, _, Z, s, re, hw, fun H1 cs1 vs ds s1 r1 l1 h1 => ?_, px⟩
  obtain ⟨xs, rfl, h⟩ := h1
  cases r1 with
  | cons r1 r2 =>
    cases r2
    cases r1 with
    | lst a1 b1 => exact ⟨_, _, rfl, ex_l pur_le a1, pe H1 cs1 _ _ s1 (yi_enum a1 b1) h⟩
theorem r_enum {ρ : DL.Env} {cs : Cs} {Z : XZ} {R : List D → Cs → Prop} (h : w ρ cs (fun ds cs1 => ∃ xs, ds = [.lst xs] ∧ R (enumD xs) cs1) Z) : iEn w ρ cs R Z := h
end
end DL
namespace DL
open PySem PySem.Spec PyProof.Rows L2 LamX
def tLostD (fl : Str) (L : List Str) (we : DL.WE) : DL.WE := fun ρ cs P Z => we ρ cs (fun _ cs1 => P .non cs1) (fun x cs1 => x.cls ∈ L ∧ ∃ y, x.fs.lookup fl = some y ∧ P y cs1)
theorem r_lost {fl : Str} {L : List Str} {we : DL.WE} {ρ : DL.Env} {cs : Cs} {P : DP} {Z : XZ} (h : we ρ cs (fun _ cs1 => P .non cs1) (fun x cs1 => x.cls ∈ L ∧ ∃ y, x.fs.lookup fl = some y ∧ P y cs1)) : tLostD fl L we ρ cs P Z := h
end DL
namespace DL
open PySem PySem.Spec PyProof.Rows L2
def keyT (e : Int × Value) : Str := match e.2 with | .str k _ => k | _ => Str.empty
def GoodT (w : World) (e : Int × Value) : Prop := ∃ k u, e.2 = Value.str k u ∧ e.1 = hashStr w k
/-- the set of texts at a: l its members in the order of its table -/
def SetX (w : World) (h : Heap) (a : Addr) (l : List Str) : Prop :=
  ∃ o es ep t, h.get? a = some o ∧ o.ExactSet ∧ o.data = .set es ep t ∧ (∀ e ∈ es.toList, GoodT w e) ∧ es.toList.map keyT = l ∧ l.Nodup ∧
    es.size < scanBound ∧ t.fits es.size = true ∧ Ris t.place.toList ∧ (w.params.followText "set-order" = true ∨ t.led = true)
section
variable {P : Program} {w : World} {h h' : Heap} {a : Addr} {l : List Str}
theorem SetX.at (R : SetX w h a l) (k : ∀ o, h.get? a = some o → h'.get? a = some o) : SetX w h' a l := by
  obtain ⟨o, es, ep, t, ho, r⟩ := R
  exact ⟨o, es, ep, t, k o ho, r⟩
theorem goodT_elems {l : List (Int × Value)} (g : ∀ e ∈ l, GoodT w e) : ElemsOf (PySem.strKind P w) l := fun e he => by
  obtain ⟨k, u, h1, h2⟩ := g e he
  exact ⟨⟨k, by rw [h1]; exact strKind_is P w k u, h2⟩, by rw [h1] <;> rfl⟩
theorem goodT_is {e : Int × Value} (g : GoodT w e) (k : Str) : (PySem.strKind P w).is k e.2 = true ↔ keyT e = k := by
  obtain ⟨k0, u, h1, _⟩ := g
  unfold keyT
  rw [h1]
  show ((k0 == k) = true) ↔ k0 = k
  exact beq_iff_eq
theorem goodT_mem {l : List (Int × Value)} (g : ∀ e ∈ l, GoodT w e) (k : Str) : k ∈ l.map keyT ↔ ∃ e ∈ l, (PySem.strKind P w).is k e.2 = true := by
  rw [List.mem_map]
  constructor
  · rintro ⟨e, he, q⟩
    exact ⟨e, he, (goodT_is (g e he) k).2 q⟩
  · rintro ⟨e, he, q⟩
    exact ⟨e, he, (goodT_is (g e he) k).1 q⟩
end
section
variable {P : Program} {w : World} {A : Around} {E : Value → Shared → Prop} {s : Shared} {a : Addr} {l : List Str}
theorem setX_tail {g : Bool → Sem Unit} (hg : ∀ (b : Bool) (s₁ : Shared) (Q' : Unit → Shared → Prop), Q' () s₁ → wpAny (model P w) A (g b) Q' E s₁)
    {o : Obj} {es : Array (Int × Value)} {ep : Nat} {t : SetTable} (ho : s.heap.get? a = some o) (hex : o.ExactSet) (hd : o.data = .set es ep t)
    {es1 : Array (Int × Value)} {t2 : SetTable} (g1 : ∀ e ∈ es1.toList, GoodT w e) (nd1 : (es1.toList.map keyT).Nodup)
    (hb1 : es1.size < scanBound) (hf2 : t2.fits es1.size = true) (hr : Ris t2.place.toList) (hl : w.params.followText "set-order" = true ∨ t2.led = true) {wasDummy : Bool} {R : Option Bool → Shared → Prop}
    (hR : ∀ h' l', Heap.SameBut a s.heap h' → l'.Perm (es1.toList.map keyT) → SetX w h' a l' → R (some true) { s with heap := h' }) :
    wpAny (model P w) A (do
        storeSet a es1 t2
        if (!wasDummy && t2.tooFull) = true then do
            g (relayAll t2 es1 (SetTable.grown es1.size)).2.2
            storeSet a (relayAll t2 es1 (SetTable.grown es1.size)).1 (relayAll t2 es1 (SetTable.grown es1.size)).2.1
            pure (some true)
          else pure (some true)) R E s := by
  refine wpAny_bind (wpAny_storeSet_of ho hd ?_ (fits_of_scanBound hb1))
  have ho1 := store_at (es' := es1) (t' := t2) ho hd
  have sb1 := Heap.SameBut.update s.heap a (Obj.putSet es1 t2)
  split
  · have pm := relayAll_perm t2 es1 (SetTable.grown es1.size)
    have hf3 := relayAll_fits t2 es1 (SetTable.grown es1.size)
    have hr3 := relayAll_ris t2 es1 (SetTable.grown es1.size)
    have hl3 := relayAll_led t2 es1 (SetTable.grown es1.size)
    generalize relayAll t2 es1 (SetTable.grown es1.size) = Z at pm hf3 hr3 hl3 ⊢
    obtain ⟨es2, t3, gave⟩ := Z
    dsimp only at pm hf3 hr3 hl3 ⊢
    have hsz : es2.size = es1.size := by rw [← Array.length_toList, pm.length_eq, Array.length_toList]
    have hb2 : es2.size < scanBound := by rw [hsz]; exact hb1
    refine wpAny_bind (hg _ _ _ ?_)
    refine wpAny_bind (wpAny_storeSet_of ho1 rfl ?_ (fits_of_scanBound hb2))
    have ho2 := store_at (es' := es2) (t' := t3) ho1 rfl
    refine wpAny_pure (hR _ _ (sb1.trans (Heap.SameBut.update _ a _)) (pm.map keyT) ?_)
    exact ⟨_, es2, _, t3, ho2, hex, rfl, fun e he => g1 e (pm.mem_iff.mp he), rfl, (pm.map keyT).nodup_iff.mpr nd1, hb2, hf3, hr3, hl.imp id fun z => by rw [hl3]; exact z⟩
  · exact wpAny_pure (hR _ _ sb1 (List.Perm.refl _) ⟨_, es1, _, t2, ho1, hex, rfl, g1, rfl, nd1, hb1, hf2, hr, hl⟩)
theorem setX_add {k : Str} {u : Tok} {Q : Bool → Shared → Prop} (R : SetX w s.heap a l) (room : l.length + 1 < scanBound)
    (hQ : ∀ b h' l', Heap.SameBut a s.heap h' → SetX w h' a l' → (k ∈ l → l' = l) → (k ∉ l → l'.Perm (k :: l)) → Q b { s with heap := h' }) :
    wpAny (model P w) A (setAddHashed a (.str k u) ((PySem.strKind P w).hash k)) Q E s := by
  obtain ⟨o, es, ep, t, ho, hex, hd, g, rfl, nd, hb, hf, hr, hl⟩ := R
  have hkey : (PySem.strKind P w).is k (.str k u) = true := strKind_is P w k u
  have hsc : (Value.str k u).scannable = true := rfl
  have hel : ElemsOf (PySem.strKind P w) es.toList := goodT_elems g
  unfold setAddHashed setAddHashedIn
  refine wpAny_holding (wpAny_bind (wpAny_setState_of ho hd hf ?_))
  dsimp only
  rw [byScan_of hsc hb hel]
  simp only [↓reduceIte]
  unfold setAddByScan
  refine wpAny_bind ?_
  refine wpAny_bind (wpAny_rule ?_)
  refine wpAny_bind (wpAny_setScan_of hkey ho hd hf hel ?_)
  cases hfi : List.findIdx? (fun e => (PySem.strKind P w).is k e.2) es.toList with
  | some j =>
    dsimp only
    obtain ⟨hj, pj, _⟩ := List.findIdx?_eq_some_iff_getElem.mp hfi
    have hm : k ∈ es.toList.map keyT := (goodT_mem (P := P) (w := w) g k).2 ⟨es.toList[j], List.getElem_mem hj, pj⟩
    refine wpAny_pure (wpAny_pure ?_)
    exact hQ _ s.heap _ (Heap.SameBut.refl a s.heap) ⟨o, es, ep, t, ho, hex, hd, g, rfl, nd, hb, hf, hr, hl⟩ (fun _ => rfl) fun z => absurd hm z
  | none =>
    dsimp only
    have hnk : k ∉ es.toList.map keyT := fun z => by
      obtain ⟨e, he, q⟩ := (goodT_mem (P := P) (w := w) g k).1 z
      have c := List.findIdx?_eq_none_iff.mp hfi e he
      rw [q] at c
      cases c
    have hgw : ∀ (b : Bool) {s₁ : Shared} {Q' : Unit → Shared → Prop}, Q' () s₁ → wpAny (model P w) A (match b with | true => rule "set.scan.the-table-gave-way" | false => pure ()) Q' E s₁ :=
      fun b s₁ Q' q => by cases b <;> first | exact wpAny_pure q | exact wpAny_rule q
    have pm := layNew_perm t es ((PySem.strKind P w).hash k) (.str k u)
    have hf1 := layNew_fits t es ((PySem.strKind P w).hash k) (.str k u)
    have hr1 := layNew_ris t es ((PySem.strKind P w).hash k) (.str k u) hr
    have hl1 := layNew_led t es ((PySem.strKind P w).hash k) (.str k u)
    generalize layNew t es ((PySem.strKind P w).hash k) (.str k u) = Z at pm hf1 hr1 hl1 ⊢
    obtain ⟨es1, t1, wasDummy, gave⟩ := Z
    dsimp only at pm hf1 hr1 hl1 ⊢
    rw [Array.toList_push] at pm
    have pc : es1.toList.Perm (((PySem.strKind P w).hash k, Value.str k u) :: es.toList) := pm.trans (List.perm_append_singleton _ _)
    have pk : (es1.toList.map keyT).Perm (k :: es.toList.map keyT) := pc.map keyT
    have g1 : ∀ e ∈ es1.toList, GoodT w e := fun e he => by
      rcases List.mem_cons.mp (pc.mem_iff.mp he) with z | z
      · rw [z]; exact ⟨k, u, rfl, rfl⟩
      · exact g e z
    have nd1 : (es1.toList.map keyT).Nodup := pk.nodup_iff.mpr (List.nodup_cons.mpr ⟨hnk, nd⟩)
    have hsz : es1.size = es.size + 1 := by rw [← Array.length_toList, pc.length_eq, List.length_cons, Array.length_toList]
    have hb1 : es1.size < scanBound := by rw [hsz]; rw [List.length_map, Array.length_toList] at room; exact room
    have hled : w.params.followText "set-order" = true ∨ t1.led = true := hl.imp id fun z => by rw [hl1]; exact z
    have fin : ∀ b h' l', Heap.SameBut a s.heap h' → l'.Perm (es1.toList.map keyT) → SetX w h' a l' → Q b { s with heap := h' } := fun b h' l' sb pl r => hQ b h' l' sb r (fun z => absurd z hnk) fun _ => pl.trans pk
    refine wpAny_bind (hgw _ ?_)
    split
    · refine wpAny_bind ?_
      rw [hashByValue_scannable 8 hsc]
      refine wpAny_pure ?_
      refine setX_tail ?_ ho hex hd g1 nd1 hb1 ?_ ?_ ?_ ?_
      · intro b s₁ Q' q; cases b <;> first | exact wpAny_pure q | exact wpAny_rule q
      · first | (split <;> first | exact hf1 | exact SetTable.fits_plain_off hf1) | exact hf1
      · first | (split <;> exact hr1) | exact hr1
      · first | (split <;> exact hled) | exact hled
      · intro h' l' sb pl r; dsimp only; exact wpAny_pure (fin _ h' l' sb pl r)
    · refine wpAny_bind (wpAny_pure ?_)
      simp only [↓reduceIte]
      refine setX_tail ?_ ho hex hd g1 nd1 hb1 hf1 hr1 hled ?_
      · intro b s₁ Q' q; cases b <;> first | exact wpAny_pure q | exact wpAny_rule q
      · intro h' l' sb pl r; dsimp only; exact wpAny_pure (fin _ h' l' sb pl r)
end
theorem setX_fresh {w : World} {h : Heap} {a : Addr} (ho : h.get? a = some { cls := .type "set", dict := none, data := .set #[] 0 (.fresh 0 0 (!w.params.followText "set-order")) }) : SetX w h a [] :=
  ⟨_, #[], 0, _, ho, ⟨rfl, rfl, rfl⟩, rfl, fun e he => (by simp at he), rfl, List.nodup_nil, by unfold scanBound; decide, rfl, List.Pairwise.nil, by
    show _ ∨ (!w.params.followText "set-order") = true
    cases w.params.followText "set-order"
    · exact .inr rfl
    · exact .inl rfl⟩
/-- l holds what stands in ks -/
structure GotX (ks l : List Str) : Prop where
  mem : ∀ x, x ∈ l ↔ x ∈ ks
  nd : l.Nodup
theorem GotX.len {ks l : List Str} (g : GotX ks l) : l.length ≤ ks.length := nodup_le g.nd fun x hx => (g.mem x).mp hx
theorem GotX.same {ks l : List Str} {x : Str} (g : GotX ks l) (h : x ∈ l) : GotX (ks ++ [x]) l := ⟨fun y => by
  rw [List.mem_append, List.mem_singleton, ← g.mem y]
  exact ⟨.inl, fun z => z.elim id fun e => e ▸ h⟩, g.nd⟩
theorem GotX.more {ks l l' : List Str} {x : Str} (g : GotX ks l) (h : x ∉ l) (p : l'.Perm (x :: l)) : GotX (ks ++ [x]) l' := ⟨fun y => by
  rw [p.mem_iff, List.mem_cons, List.mem_append, List.mem_singleton, g.mem y]
  exact Or.comm, p.nodup_iff.mpr (List.nodup_cons.mpr ⟨h, g.nd⟩)⟩
section
variable {P : Program} {w : World} {A : Around} {E : Value → Shared → Prop} {s : Shared}
theorem setX_update {I : Addr} {fp wr : List Addr} {G : Array GenState → Array GenState → Prop} {n : Nat} {Pv : Nat → Value → Prop} {St : Nat → Shared → Prop} {R : Result → Shared → Prop}
    (W : WalksS P w A.in1 I fp wr G n Pv St) (S : Addr) (hSf : S ∉ fp) (ks : List Str) (hn : n = ks.length) (hfew : ks.length < 4000) (hval : ∀ i v, Pv i v → ∃ x u, ks[i]? = some x ∧ v = .str x u) :
    ∀ (k i : Nat) (s : Shared), n - i = k → i ≤ n → St i s → (∃ l, SetX w s.heap S l ∧ GotX (ks.take i) l) →
      (∀ s' l, Moved (S :: wr) G s s' → SetX w s'.heap S l → GotX ks l → R (.ok (.ret .none)) s') →
      codeAny (model P w) A (.builtin "set.update.loop" ⟨[.ref S, .ref I], []⟩) R s := by
  have hSw : S ∉ wr := fun h => hSf (W.sub _ h)
  have hsub : ∀ b ∈ wr, b ∈ S :: wr := fun b hb => List.mem_cons_of_mem _ hb
  intro k
  induction k with
  | zero =>
    intro i s hk' hi hst ⟨l, hS, g⟩ hR
    have hin : i = n := by omega
    subst hin
    refine codeAny_builtin F.entry_set_update_loop ?_
    rw [Around.under_plainId F.plain_set_update_loop _]
    show wpAny _ A.in1 (pyNext (.ref I) >>= _) _ _ s
    refine wpAny_bind (W.done s _ _ hst fun s' hm => ?_)
    show wpAny _ A.in1 (ret Value.none) _ _ s'
    rw [hn, List.take_length] at g
    exact wpAny_pure (hR s' l (hm.mono hsub) (hS.at fun o e => hm.heap S o hSw e) g)
  | succ k ih =>
    intro i s hk' hi hst ⟨l, hS, g⟩ hR
    have hlt : i < n := by omega
    refine codeAny_builtin F.entry_set_update_loop ?_
    rw [Around.under_plainId F.plain_set_update_loop _]
    show wpAny _ A.in1 (pyNext (.ref I) >>= _) _ _ s
    refine wpAny_bind (W.item i s _ _ hlt hst fun v s' hP hst' hm => ?_)
    obtain ⟨x, u, hp, rfl⟩ := hval i v hP
    have hS' : SetX w s'.heap S l := hS.at fun o e => hm.heap S o hSw e
    have tk : ks.take (i + 1) = ks.take i ++ [x] := by rw [List.take_add_one, hp]; rfl
    show wpAny _ A.in1 (holding [Value.str x u] (setAdd S (.str x u)) >>= _) _ _ s'
    refine wpAny_bind (wpAny_holding ?_)
    unfold setAdd
    refine wpAny_holding ?_
    refine wpAny_bind ((PySem.strKind P w).pyHash (k := x) (strKind_is P w x u) ?_)
    have hle := g.len
    rw [List.length_take] at hle
    refine setX_add (s := { s' with toks := s'.toks + 1 }) hS' (by unfold scanBound; omega) fun b h' l' hsb hS2 c1 c2 => ?_
    have g' : GotX (ks.take (i + 1)) l' := by
      rw [tk]
      rcases Classical.em (x ∈ l) with c | c
      · rw [c1 c]; exact g.same c
      · exact g.more c (c2 c)
    refine wpAny_pure ⟨plainId_quiet F.plain_set_update_loop _, ih (i + 1) _ (by omega) hlt (W.frame _ s' _ _ hst' (Nat.le_succ _) fun b hb o e => ?_) ⟨l', hS2, g'⟩ fun s'' l2 hm'' hS'' g'' => ?_⟩
    · rw [hsb.2 b (fun h : b = S => hSf (by rw [← h]; exact hb))]; exact e
    · refine hR s'' l2 (Moved.trans W.gtrans ((hm.mono hsub).then_heap (Nat.le_succ _) fun b o hb e => ?_) hm'') hS'' g''
      rw [hsb.2 b (fun h : b = S => hb (by rw [h]; exact List.mem_cons_self))]; exact e
theorem call_setX {a : Addr} {items : Array Value} (ks : List Str) {Q : Value → Shared → Prop} (hh : A.handled = none) (hl : s.heap.IsList a items) (hit : StrsAre items.toList ks) (hfew : ks.length < 4000)
    (h : ∀ (h' : Heap) (tk : Nat) l, SetX w h' s.heap.objs.size l → GotX ks l → (∀ b o, b < s.heap.objs.size → s.heap.get? b = some o → h'.get? b = some o) → Q (.ref s.heap.objs.size) { s with heap := h', toks := tk }) :
    wpAny (model P w) A (call (.type "set") [.ref a]) Q E s := by
  have hisz : items.size = ks.length := by
    rw [← Array.length_toList]
    exact (vals_of_strs hit).length.symm.trans (List.length_map _)
  obtain ⟨c, tl, hmro⟩ := F.called_set.mro
  have hmade := F.called_set.made
  have hsub := F.called_set.sub
  refine wpAny_call (codeAny_of_tree ?_)
  show wpAny _ _ (callAny (.type "set") _) _ _ _
  refine wpAny_pure ⟨Code.quiet_builtin _ (by decide +kernel), codeAny_builtin F.entry_type_call ?_⟩
  rw [Around.under_plain (weight_type_call_type "set" [.ref a] []) rfl]
  have h1 := F.called_set.notType
  have h2 := F.called_set.canCreate
  have hct := F.typeCall_set_1 (.ref a)
  repeat (any_goals (first | assumption | wp_step))
  refine codeAny_mono (code_set_led1 (.ref a) (E := E) (Q₁ := fun obj s₁ => obj = .ref s.heap.objs.size ∧ s₁ = { s with heap := s.heap.push { cls := .type "set", dict := none, data := .set #[] 0 (.fresh 0 0 (!w.params.followText "set-order")) } }) ⟨rfl, rfl⟩) fun r s₁ hr => ?_
  cases r with
  | error e => exact hr
  | ok fl =>
    cases fl with
    | ret obj =>
      obtain ⟨rfl, rfl⟩ := hr
      have hS : (s.heap.push { cls := .type "set", dict := none, data := .set #[] 0 (.fresh 0 0 (!w.params.followText "set-order")) }).get? s.heap.objs.size = some { cls := .type "set", dict := none, data := .set #[] 0 (.fresh 0 0 (!w.params.followText "set-order")) } := Heap.get?_push_size _ rfl
      have hT : Shared.TypeIs { s with heap := s.heap.push { cls := .type "set", dict := none, data := .set #[] 0 (.fresh 0 0 (!w.params.followText "set-order")) } } (.ref s.heap.objs.size) "set" := ⟨_, hS, rfl⟩
      have hli := F.called_set.init.lookup
      have hbi := F.called_set.init.bind (.ref s.heap.objs.size)
      repeat (any_goals (first | assumption | wp_step))
      refine codeAny_mono (codeAny_call_builtin (R := wants (fun r s₂ => r = .none ∧ ∃ h' tk l, s₂ = { s with heap := h', toks := tk } ∧ SetX w h' s.heap.objs.size l ∧ GotX ks l ∧
          (∀ b o, b < s.heap.objs.size → s.heap.get? b = some o → h'.get? b = some o)) E) F.called_set.init.plain F.entry_set_init (check_set_init_1 hT ?_)) fun r₂ s₂ hr₂ => ?_
      · obtain ⟨ol, hol, hcl, nl, hdl⟩ := hl
        obtain ⟨ocls, odict, odata, oslots⟩ := ol
        simp only at hcl hdl
        subst hcl; subst hdl
        have hol' : (s.heap.push { cls := .type "set", dict := none, data := .set #[] 0 (.fresh 0 0 (!w.params.followText "set-order")) }).get? a = some { cls := .type "list", dict := odict, data := .seq items nl, slots := oslots } := Heap.get?_push_of_some _ hol
        have hsls := F.sub_list_set
        have hslf := F.sub_list_frozenset
        have hne : (Value.type "list" == Value.type "dict") = false := by decide
        have hl1 : (s.heap.push { cls := .type "set", dict := none, data := .set #[] 0 (.fresh 0 0 (!w.params.followText "set-order")) }).IsList a items := ⟨_, hol', rfl, nl, rfl⟩
        unfold Builtin.«set.__init__» noKeywords Builtin.Frozenset.updateFrom
        generalize hPI : pyIter = PI
        wp_walk
        subst hPI
        refine wpAny_pyIter_list hl1 ?_
        refine wpAny_bind (wpAny_runValue ?_)
        have hlS : a < s.heap.objs.size := Heap.lt_size hol
        have hh3 : A.in1.in1.in1.handled = none := by simp [hh]
        have hneI : a ≠ (s.heap.push { cls := .type "set", dict := none, data := .set #[] 0 (.fresh 0 0 (!w.params.followText "set-order")) }).objs.size := by
          rw [Heap.size_push]; exact Nat.ne_of_lt (Nat.lt_succ_of_lt hlS)
        have hSf : s.heap.objs.size ∉ [(s.heap.push { cls := .type "set", dict := none, data := .set #[] 0 (.fresh 0 0 (!w.params.followText "set-order")) }).objs.size, a] := by
          rw [Heap.size_push]; simp only [List.mem_cons, List.mem_singleton, List.not_mem_nil, or_false, not_or]
          exact ⟨Nat.ne_of_lt (Nat.lt_succ_self _), Nat.ne_of_gt hlS⟩
        have hval : ∀ (i : Nat) (v : Value), items[i]? = some v → ∃ x u, ks[i]? = some x ∧ v = .str x u := fun i v hv => by
          have hi : i < ks.length := by rw [← hisz]; exact (Array.getElem?_eq_some_iff.mp hv).1
          obtain ⟨t, et⟩ := (SS.strs_at hit i v (by rw [Array.getElem?_toList]; exact hv))
          exact ⟨ks[i], t, List.getElem?_eq_getElem hi, by rw [et, List.getD_eq_getElem?_getD, List.getElem?_eq_getElem hi]; rfl⟩
        refine setX_update ((Walks.list hh3 _ a hneI items).toS) s.heap.objs.size hSf ks hisz hfew hval (items.size - 0) 0 _ (by omega) (Nat.zero_le _) ⟨⟨_, Heap.get?_push_size _ rfl, rfl, rfl⟩, (hl1.push _)⟩ ?hS0 ?hR
        case hS0 =>
          have hget : ((s.heap.push { cls := .type "set", dict := none, data := .set #[] 0 (.fresh 0 0 (!w.params.followText "set-order")) }).push { cls := .type "list_iterator", data := .fields #[.ref a, .int 0 0] }).get? s.heap.objs.size
              = some { cls := .type "set", dict := none, data := .set #[] 0 (.fresh 0 0 (!w.params.followText "set-order")) } := Heap.get?_push_of_some _ hS
          exact ⟨[], setX_fresh hget, ⟨fun x => by simp, List.nodup_nil⟩⟩
        case hR =>
          intro s' l hm hS' g'
          obtain ⟨h', g2, d', tk', os'⟩ := s'
          have eg : g2 = s.gens := hm.gens
          have ed : d' = s.drawn := hm.drawn
          have eo : os' = s.os := hm.os
          subst eg; subst ed; subst eo
          show wpAny _ _ _ _ _ _
          refine wpAny_pure ?_
          show wpAny _ _ (ret Value.none) _ _ _
          refine wpAny_pure ⟨rfl, h', tk', l, rfl, hS', g', fun b o hb e => ?_⟩
          have hb1 : b ≠ s.heap.objs.size := Nat.ne_of_lt hb
          have hb2 : b ≠ (s.heap.push { cls := .type "set", dict := none, data := .set #[] 0 (.fresh 0 0 (!w.params.followText "set-order")) }).objs.size := by
            rw [Heap.size_push]; exact Nat.ne_of_lt (Nat.lt_succ_of_lt hb)
          exact hm.heap b o (fun z => by
            rcases List.mem_cons.mp z with z | z
            · exact hb1 z
            · exact hb2 (List.mem_singleton.mp z)) (Heap.get?_push_of_some _ (Heap.get?_push_of_some _ e))
      · cases r₂ with
        | error e => exact hr₂
        | ok fl₂ =>
          cases fl₂ with
          | ret r =>
            obtain ⟨rfl, h', tk, l, rfl, hS', g', hk'⟩ := hr₂
            repeat (any_goals (first | assumption | wp_step))
            exact h _ _ _ hS' g' hk'
          | _ => exact hr₂.elim
    | _ => exact hr.elim
/-- sorted(set) -/
theorem call_sortX {a : Addr} {l : List Str} {Q : Value → Shared → Prop} (R : SetX w s.heap a l) (hh : A.handled = none) (h64 : l.length < 64)
    (hQ : ∀ s' p (out : Array Value) (c : Nat) (ns : List Str), (∀ b o, s.heap.get? b = some o → s'.heap.get? b = some o) → s'.gens = s.gens → s'.os = s.os → s.heap.objs.size ≤ p →
      s'.heap.get? p = some (seqObj "list" out c) → StrsAre out.toList ns → ns.Perm l → sortedS ns = true → Q (.ref p) s') :
    wpAny (model P w) A (call (.builtin "sorted") [.ref a]) Q E s := by
  obtain ⟨o, es, ep, t, ho, hex, hd, g, hks, nd, hb, hf, hr, hl⟩ := R
  refine Calls.call_function_entry kind_sorted plain_sorted entry_sorted (args_sorted1 _) ?_
  unfold Builtin.«sorted»
  refine wpAny_bind (m := checkCount "sorted" 1 1 _) (wpAny_pure ?_)
  refine wpAny_bind (collect_set (A := A.in1) hh ⟨o, ho, hex.1, hd⟩ hf hb hr hl fun s1 vs k1 hz g1 o1 pm => ?_)
  have hvl : vs.length = l.length := by rw [pm.length_eq, List.length_map, ← hks, List.length_map]
  have hS : ∀ (vs : List Value), (∀ v ∈ vs, ∃ k u, v = Value.str k u) → StrsAre vs (vs.map fun v => keyT (0, v)) := fun vs => by
    induction vs with
    | nil => intro _; exact .nil
    | cons v vs ih =>
      intro hv
      obtain ⟨k, u, rfl⟩ := hv v (List.mem_cons_self ..)
      exact .cons k u (ih fun x hx => hv x (List.mem_cons_of_mem _ hx))
  have hS := hS vs fun v hv => by
    obtain ⟨e, he, q⟩ := List.mem_map.mp (pm.mem_iff.mp hv)
    obtain ⟨k, tk, h1, _⟩ := g e he
    exact ⟨k, tk, by rw [← q]; exact h1⟩
  have pk : (vs.map fun v => keyT (0, v)).Perm l := by
    have q := pm.map fun v => keyT (0, v)
    rw [List.map_map] at q
    rw [← hks]
    exact q
  refine wpAny_bind (wpAny_newList ?_ (by rw [hvl, sizeLine_eq]; omega))
  have hoL : (s1.heap.push (seqObj "list" vs.toArray 0)).get? s1.heap.objs.size = some (seqObj "list" vs.toArray 0) := Heap.get?_push_size _ rfl
  refine wpAny_bind (wpAny_holding (wpAny_call_entry slot_list_sort ⟨_, hoL, rfl⟩ entry_list_sort (list_sort_treeK strKind_oneLt hoL hS.keysOf (fun v₁ v₂ rest e => keyKind_strs (by rw [← e]; exact hS)) (by rw [hvl]; exact h64) fun st' hp hs => ⟨_, rfl, ?_⟩) (args_list_sort _)))
  obtain ⟨ys, e1, e2, e3⟩ := sorted_out_str hS hp hs
  obtain ⟨c, hc⟩ := sortedHeap_at (vs := vs) (out := (arrOf st').map (·.2)) hoL
  refine wpAny_pure ⟨_, rfl, hQ _ s1.heap.objs.size _ c ys (fun b u e => ?_) g1 o1 hz hc e1 (e2.trans pk) e3⟩
  have q := k1 b u e
  have hlt := Heap.lt_size q
  show (sortedHeap (s1.heap.push (seqObj "list" vs.toArray 0)) s1.heap.objs.size vs _).get? b = some u
  rw [sortedHeap_old (Nat.ne_of_lt hlt) (by rw [size_push']; exact Nat.lt_succ_of_lt hlt)]
  exact Heap.get?_push_of_some _ q
end
def SetXO (w : World) (a : Addr) (l : List Str) : HO := .ext fun h => SetX w h a l
section
variable {X : Cx} {W : WX} {K : PySem.W.Frag} {e : Expr} {we : DL.WE} {pos : Pos}
theorem setXO_new {w : World} {P : Program} {H : Hp} {h : Heap} {a : Addr} {l : List Str} (R : SetX w h a l) : ObjOk P w H h a (SetXO w a l) := by
  have ⟨o, _, _, _, ho, _⟩ := R
  exact ⟨R, ⟨o, ho⟩, fun h1 h2 p k => SetX.at p k⟩
theorem setXO_get {pins : List (Addr × Obj)} {σ : L2.St} {H : Hp} {s : Shared} {a : Addr} {l : List Str} (I : Inv X pins σ H s) (ha : H a = some (SetXO X.w a l)) : SetX X.w s.heap a l := (I.hok a _ ha).1
def rSetX (K : PySem.W.Frag) (w : World) : List V → Hp → VK → Prop := fun xs H Q => ∃ (a : Addr) (ks : List Str), xs = [V.ref a] ∧ SqL K H a (ks.map V.str) ∧ ks.length < 4000 ∧ ∀ p l, H p = none → GotX ks l → Q (.ref p) (upd H p (SetXO w p l))
theorem cr_setX (hc : X.calm = true) : CallR X (.type "set") (rSetX X.K X.w) := by
  intro pins s σ H xs us Q I r h
  obtain ⟨a, ks, rfl, hl, hf, q⟩ := h
  rw [Vals.ref1 r]
  obtain ⟨its, rv, pl, hz⟩ := I.list hl
  have hn : H s.heap.objs.size = none := I.hok.fresh (Nat.le_refl _)
  refine call_setX (P := X.prog) (w := X.w) ks (I.ok.hd hc) pl.isList (by simpa using strsAre_of rv) hf fun h' tk l R g k => ?_
  exact ⟨.ref s.heap.objs.size, upd H s.heap.objs.size (SetXO X.w s.heap.objs.size l), I.laid (t' := tk) (fun b o e => k b o (Heap.lt_size e) e) (Nat.le_refl _) (setXO_new R), rfl, q _ l hn g⟩
def rSortX (w : World) : List V → Hp → VK → Prop := fun vs H Q => ∃ (a : Addr) (l : List Str), vs = [V.ref a] ∧ H a = some (SetXO w a l) ∧ l.length < 64 ∧
  ∀ (ns : List Str) (p : Addr), ns.Perm l → sortedS ns = true → H p = none → Q (.ref p) (upd H p (.lst (ns.map V.str)))
theorem cr_sortX (hc : X.calm = true) : CallR X (.builtin "sorted") (rSortX X.w) := by
  intro pins s σ H vs us Q I r h
  obtain ⟨a, l, rfl, ha, h64, q⟩ := h
  rw [Vals.ref1 r]
  refine call_sortX (P := X.prog) (setXO_get I ha) (I.ok.hd hc) h64 fun s' p out c ns k g o hp hg hi pm hs => ?_
  have hlen : (ns.map V.str).length ≤ sizeLine := by rw [List.length_map, pm.length_eq, sizeLine_eq]; omega
  have hn : H p = none := I.hok.fresh hp
  have J : Inv X pins σ (upd H p (.lst (ns.map V.str))) { s with heap := s'.heap, gens := s'.gens, drawn := s'.drawn, toks := s'.toks } :=
    I.call (ch := []) (Un.laid k hp hn) (I.hok.laid k hp ⟨hlen, out.toList, c, vals_of_strs hi, hg⟩) (by rw [g]; exact I.bare) (fun _ z => nomatch z)
  have e : s' = { s with heap := s'.heap, gens := s'.gens, drawn := s'.drawn, toks := s'.toks } := by
    cases s'
    cases s
    cases o
    rfl
  rw [e]
  exact ⟨.ref p, _, J, rfl, q ns p pm hs hn⟩
def wLenSetX (we : DL.WE) : DL.WE := fun ρ cs P Z => we ρ cs (fun d cs1 => ∃ ks : List Str, lstOf cs1 d = some (ks.map D.str) ∧ ks.length < 4000 ∧ ∀ l : List Str, GotX ks l → P (.int (l.length : Int)) cs1) Z
def wSortSetX (we : DL.WE) : DL.WE := fun ρ cs P Z => we ρ cs (fun d cs1 => ∃ ks : List Str, lstOf cs1 d = some (ks.map D.str) ∧ ks.length < 4000 ∧ ∀ l : List Str, GotX ks l → l.length < 64 ∧ P (.lst ((sortN l).map D.str)) cs1) Z
theorem d_sortSetX {p p2 pos2 : Pos} (hc : X.calm = true) (hg : Gl X "sorted") (hm : X.mg "sorted" = none) (hg2 : Gl X "set") (hm2 : X.mg "set" = none) (he : DE X W e we)
    (h1 : starEach [e] X.env = (false, eval e X.env) :: starEach [] X.env := by rfl) (h2 : (backTo pos2 (starEach [] X.env)).any (·.1) = false := by rfl)
    (h3 : starEach [.Call (.Name "set" p2) [e] [] pos2] X.env = (false, eval (.Call (.Name "set" p2) [e] [] pos2) X.env) :: starEach [] X.env := by rfl) (h4 : (backTo pos (starEach [] X.env)).any (·.1) = false := by rfl) :
    DE X W (.Call (.Name "sorted" p) [.Call (.Name "set" p2) [e] [] pos2] [] pos) (wSortSetX we) :=
  PE.imp (pe_callB (es := []) (cr_sortX hc) hg hm (by decide +kernel) (pa_cons (pe_callTy (es := []) (cr_setX hc) hg2 hm2 (by decide +kernel) (pa_cons he pa_nil h1) (by decide) (by decide) h1 h2) pa_nil h3) (by decide) (by decide) h3 h4) fun σ H Q h => by
    obtain ⟨F, cs, ρ, P, Z, s, re, hw, pe, px⟩ := h
    refine ⟨F, cs, ρ, _, Z, s, re, hw, fun H1 cs1 v d s1 r1 h1 => ?_, px⟩
    obtain ⟨ks, hl, h64, h1⟩ := h1
    obtain ⟨q, vs, rfl, e1, e2⟩ := lstOf_sq s1 r1 hl
    obtain rfl := RepL.strs ks e2
    refine ⟨q, ks, rfl, e1, h64, fun a l ha g => ?_⟩
    obtain ⟨s2, e3⟩ := s1.new (o := SetXO X.w a l) ha
    refine ⟨a, l, rfl, upd_same, (h1 l g).1, fun ys b hp hs hb => ?_⟩
    obtain ⟨s3, e4⟩ := s2.new (o := .lst (ys.map V.str)) hb
    have h1 := (h1 l g).2
    rw [← sortN_of hp hs] at h1
    exact pe _ cs1 _ _ ((s3.from_ s2.gr).from_ s1.gr) (.lst (SqL.of e4) (RepL.ofStrs ys)) h1
end
section
variable {ρ : DL.Env} {cs : Cs} {P : DP} {Z : XZ} {we : DL.WE}
theorem r_lenSetX (h : we ρ cs (fun d cs1 => ∃ ks : List Str, lstOf cs1 d = some (ks.map D.str) ∧ ks.length < 4000 ∧ ∀ l : List Str, GotX ks l → P (.int (l.length : Int)) cs1) Z) : wLenSetX we ρ cs P Z := h
theorem r_sortSetX (h : we ρ cs (fun d cs1 => ∃ ks : List Str, lstOf cs1 d = some (ks.map D.str) ∧ ks.length < 4000 ∧ ∀ l : List Str, GotX ks l → l.length < 64 ∧ P (.lst ((sortN l).map D.str)) cs1) Z) : wSortSetX we ρ cs P Z := h
end
theorem Wk.at_ {N : Str → List Str} : ∀ {a b : Str} {r : List Str}, Wk N a r b → ∀ (i : Nat) (u v : Str), (a :: r)[i]? = some u → (a :: r)[i + 1]? = some v → v ∈ N u
  | a, b, [], _, i, u, v, _, h2 => by rw [List.getElem?_cons_succ] at h2; simp at h2
  | a, b, x :: r, h, 0, u, v, h1, h2 => by
    have e1 : a = u := Option.some.inj h1
    have e2 : x = v := Option.some.inj h2
    rw [← e1, ← e2]; exact h.1
  | a, b, x :: r, h, i + 1, u, v, h1, h2 => Wk.at_ h.2 i u v h1 h2
theorem Wk.lastD {N : Str → List Str} {a b : Str} {r : List Str} (h : Wk N a r b) : atD ((a :: r).map D.str) (-1) = some (.str b) := by
  refine atD_last ?_ (by rw [List.length_cons]; omega)
  have := h.last
  rwa [List.getLast?_eq_getElem?] at this
end DL
namespace DL
open PySem PySem.Spec PyProof.Rows L2
abbrev rowD (l : List Str) : D := .lst (l.map D.str)
theorem pyL_strs : ∀ l : List Str, pyL (l.map D.str) = l.map PyData.str
  | [] => rfl
  | x :: l => by
    rw [List.map_cons, List.map_cons, ← pyL_strs l]; rfl
theorem lt_rows : ∀ a b : List Str, PyProof.Rows.lexLt itemOrd (PySem.W.keyToksAll (a.map PyData.str)) (PySem.W.keyToksAll (b.map PyData.str)) = !leL leS b a
  | [], [] => by
    show PyProof.Rows.lexLt itemOrd [.inl 0] [.inl 0] = _
    rw [PySem.W.lex_one]; rfl
  | [], y :: b => by
    rw [List.map_nil, List.map_cons, PySem.W.toks_all_cons]
    show PyProof.Rows.lexLt itemOrd (.inl 0 :: []) (.inl 1 :: _) = _
    rw [lex_diff (O := itemOrd) (by decide)]; rfl
  | x :: a, [] => by
    rw [List.map_nil, List.map_cons, PySem.W.toks_all_cons]
    show PyProof.Rows.lexLt itemOrd (.inl 1 :: _) (.inl 0 :: []) = _
    rw [lex_diff (O := itemOrd) (by decide)]; rfl
  | x :: a, y :: b => by
    rw [List.map_cons, List.map_cons, PySem.W.toks_all_cons, PySem.W.toks_all_cons, lex_self (O := itemOrd)]
    show PyProof.Rows.lexLt itemOrd (.inr x.cps.toList :: _) (.inr y.cps.toList :: _) = _
    unfold leL
    by_cases e : x = y
    · subst e
      rw [if_pos rfl, ← lt_rows a b]
      exact lex_self (O := itemOrd) _ _ _
    · rw [if_neg (Ne.symm e), lex_diff (O := itemOrd) (fun q => e (PySem.W.str_of_cps (Sum.inr.inj q)))]
      show decide (x.cps.toList < y.cps.toList) = !decide (y.cps.toList ≤ x.cps.toList)
      rw [← decide_not]
      exact decide_eq_decide.mpr (by rw [List.not_le])
theorem dataLt_rows (a b : List Str) : PySem.W.dataLt (pyD (rowD a)) (pyD (rowD b)) = !leL leS b a := by
  have e : ∀ l : List Str, pyD (rowD l) = .list (l.map PyData.str) := fun l => by
    show PyData.list (pyL (l.map D.str)) = _
    rw [pyL_strs]
  rw [e, e, PySem.W.dataLt_list, lt_rows]
theorem alike_strs : ∀ a b : List Str, PySem.W.alikeAll (a.map PyData.str) (b.map PyData.str) = true
  | [], _ => by unfold PySem.W.alikeAll; rfl
  | _ :: _, [] => by unfold PySem.W.alikeAll; rfl
  | x :: a, y :: b => by
    rw [List.map_cons, List.map_cons, PySem.W.alikeAll, alike_strs a b]
    rfl
theorem cnt_lt {α : Type} {p q : α → Bool} (h : ∀ x, p x = true → q x = true) : ∀ {l : List α} {y : α}, y ∈ l → q y = true → p y = false → l.countP p < l.countP q
  | x :: l, y, hy, h1, h2 => by
    have le : l.countP p ≤ l.countP q := List.countP_mono_left fun x _ => h x
    rw [List.countP_cons, List.countP_cons]
    rcases List.mem_cons.mp hy with e | hm
    · subst e
      rw [if_neg (by rw [h2]; decide), if_pos h1]; omega
    · have := cnt_lt h hm h1 h2
      by_cases c : p x = true
      · rw [if_pos c, if_pos (h x c)]; omega
      · rw [if_neg c]; split <;> omega
/-- how many rows stand before l -/
def rkW (rs : List (List Str)) (l : List Str) : Int := ((rs.countP fun y => !leL leS l y : Nat) : Int)
theorem rkW_lt {rs : List (List Str)} {a b : List Str} (ha : a ∈ rs) : (!leL leS b a) = decide (rkW rs a < rkW rs b) := by
  have tot := leL_total ordS
  have tr := @leL_trans _ _ _ ordS
  cases h : leL leS b a with
  | true =>
    have : rkW rs b ≤ rkW rs a := by
      unfold rkW
      refine Int.ofNat_le.mpr (List.countP_mono_left fun y _ hy => ?_)
      cases q : leL leS a y with
      | false => rfl
      | true => rw [tr h q] at hy; cases hy
    exact (decide_eq_false (by omega)).symm
  | false =>
    refine (decide_eq_true ?_).symm
    unfold rkW
    refine Int.ofNat_lt.mpr (cnt_lt (fun y hy => ?_) ha (by rw [h]; rfl) (by rw [leL_refl]; rfl))
    cases q : leL leS b y with
    | false => rfl
    | true =>
      have h3 : leL leS y a = true := by
        have := tot y a
        rw [Bool.or_eq_true] at this
        rcases this with z | z
        · exact z
        · rw [z] at hy; cases hy
      rw [tr q h3] at h; cases h
theorem r_minW {rs : List (List Str)} {cs : Cs} {P : DP} (h0 : 0 < rs.length) (hl : rs.length ≤ 100000) (h1 : ∀ r ∈ rs, r.length ≤ 100000) (h : ∀ r ∈ rs, (∀ y ∈ rs, leL leS r y = true) → P (rowD r) cs) : oMinD [.lst (rs.map rowD)] cs P := by
  refine ⟨_, rs.map rowD, fun i => rkW rs (rs.getD i []), rfl, rfl, by rw [List.length_map]; exact h0, plL_of fun d hd => ?_, ⟨fun x hx y hy => ?_, fun x hx => ?_⟩, fun i j x y hx hy => ?_, fun i x hx hm => ?_⟩
  · obtain ⟨r, hr, rfl⟩ := List.mem_map.mp hd
    exact plD_strs r (h1 r hr)
  · obtain ⟨i, hi⟩ := List.mem_iff_getElem?.mp hx
    obtain ⟨j, hj⟩ := List.mem_iff_getElem?.mp hy
    have g : ∀ {i : Nat} {x : PyData}, (pyL (rs.map rowD))[i]? = some x → ∃ a : List Str, x = .list (a.map PyData.str) := fun {i x} hi => by
      have il : i < (rs.map rowD).length := by rw [← pyL_len]; exact (List.getElem?_eq_some_iff.mp hi).1
      have e := List.getElem?_eq_getElem il
      have e2 := pyL_get e
      rw [hi] at e2
      refine ⟨rs[i]'(by rwa [List.length_map] at il), ?_⟩
      rw [Option.some.inj e2, List.getElem_map]
      show PyData.list (pyL _) = _
      rw [pyL_strs]
    obtain ⟨a, rfl⟩ := g hi
    obtain ⟨b, rfl⟩ := g hj
    show PySem.W.alike (.list _) (.list _) = true
    rw [PySem.W.alike]
    exact alike_strs a b
  · obtain ⟨i, hi⟩ := List.mem_iff_getElem?.mp hx
    have il : i < (rs.map rowD).length := by rw [← pyL_len]; exact (List.getElem?_eq_some_iff.mp hi).1
    have e2 := pyL_get (List.getElem?_eq_getElem il)
    rw [hi] at e2
    rw [Option.some.inj e2, List.getElem_map]
    exact fun z => nomatch z
  · rw [List.getElem?_map] at hx hy
    cases e1 : rs[i]? with
    | none => rw [e1] at hx; cases hx
    | some a =>
      cases e2 : rs[j]? with
      | none => rw [e2] at hy; cases hy
      | some b =>
        rw [e1] at hx; rw [e2] at hy
        cases hx; cases hy
        show PySem.W.dataLt (pyD (rowD a)) (pyD (rowD b)) = decide (rkW rs (rs.getD i []) < rkW rs (rs.getD j []))
        rw [List.getD_eq_getElem?_getD, List.getD_eq_getElem?_getD, e1, e2, dataLt_rows]
        exact rkW_lt (List.mem_of_getElem? e1)
  · rw [List.getElem?_map] at hx
    cases e1 : rs[i]? with
    | none => rw [e1] at hx; cases hx
    | some a =>
      rw [e1] at hx; cases hx
      refine h a (List.mem_of_getElem? e1) fun y hy => ?_
      obtain ⟨j, hj⟩ := List.mem_iff_getElem?.mp hy
      have : rkW rs (rs.getD i []) ≤ rkW rs (rs.getD j []) := hm j (by rw [List.length_map]; exact (List.getElem?_eq_some_iff.mp hj).1)
      rw [List.getD_eq_getElem?_getD, List.getD_eq_getElem?_getD, e1, hj] at this
      have e3 := rkW_lt (rs := rs) (b := a) hy
      rw [decide_eq_false (by simpa using this)] at e3
      simpa using e3
section
variable {N : Str → List Str}
theorem Dst.of {a b : Str} : ∀ (n : Nat) {s : List Str}, s.length = n → Wk N a s b → ∃ j, j ≤ n ∧ Dst N a b j := by
  intro n
  induction n using Nat.strongRecOn with
  | _ n ih =>
    intro s e w
    by_cases h : ∃ t : List Str, t.length < n ∧ Wk N a t b
    · obtain ⟨t, ht, wt⟩ := h
      obtain ⟨j, hj, d⟩ := ih t.length ht rfl wt
      exact ⟨j, by omega, d⟩
    · refine ⟨n, Nat.le_refl _, ⟨s, e, w⟩, fun t wt => ?_⟩
      rcases Nat.lt_or_ge t.length n with c | c
      · exact absurd ⟨t, c, wt⟩ h
      · exact c
theorem Dst.no {a : Str} {k : Nat} (h : ∀ c, ¬ Dst N a c k) : ∀ j, k ≤ j → ∀ c, ¬ Dst N a c j := by
  intro j hj
  obtain ⟨i, rfl⟩ := Nat.le.dest hj
  clear hj
  induction i with
  | zero => exact h
  | succ i ih =>
    intro c d
    obtain ⟨c', d', _⟩ := d.pred
    exact ih c' d'
/-- the ways of k steps, each the first to its end -/
structure LvW (N : Str → List Str) (a : Str) (k : Nat) (rs : List (Str × List Str)) : Prop where
  fst : ∀ q ∈ rs, q.2.length = k ∧ FstW leS N a q.1 q.2
  all : ∀ c, Dst N a c k → c ∈ rs.map (·.1)
  nd : (rs.map (·.1)).Nodup
structure SeenW (N : Str → List Str) (a : Str) (k : Nat) (sn : List Str) : Prop where
  mem : ∀ x, x ∈ sn ↔ ∃ j, j ≤ k ∧ Dst N a x j
  nd : sn.Nodup
theorem LvW.dst {a : Str} {k : Nat} {rs : List (Str × List Str)} (h : LvW N a k rs) {q : Str × List Str} (hq : q ∈ rs) : Dst N a q.1 k := by
  obtain ⟨e, f⟩ := h.fst q hq
  exact ⟨⟨q.2, e, f.w⟩, fun s ws => by rw [← e]; exact f.mn s ws⟩
theorem LvW.start (a : Str) : LvW N a 0 [(a, [])] := ⟨fun q hq => by rw [List.mem_singleton.mp hq]; exact ⟨rfl, FstW.nil a⟩, fun c d => by
  obtain ⟨s, e, w⟩ := d.way
  rw [List.length_eq_zero_iff.mp e] at w
  rw [← (show a = c from w)]; simp, by simp⟩
theorem SeenW.start (a : Str) : SeenW N a 0 [a] := ⟨fun x => by
  rw [List.mem_singleton]
  constructor
  · rintro rfl; exact ⟨0, Nat.le_refl _, Dst.zero _⟩
  · rintro ⟨j, hj, d⟩
    obtain ⟨s, e, w⟩ := d.way
    rw [List.length_eq_zero_iff.mp (by omega : s.length = 0)] at w
    exact (show a = x from w).symm, by simp⟩
/-- the ways of the next step, all of them -/
def laterW (f : Str → List Str) (sn : List Str) (rs : List (Str × List Str)) : List (Str × List Str) := rs.flatMap fun q => ((f q.1).filter fun y => decide (y ∉ sn)).map fun y => (y, q.2 ++ [y])
theorem mem_laterW {f : Str → List Str} {sn : List Str} {rs : List (Str × List Str)} {z : Str × List Str} : z ∈ laterW f sn rs ↔ ∃ q ∈ rs, z.1 ∈ f q.1 ∧ z.1 ∉ sn ∧ z.2 = q.2 ++ [z.1] := by
  unfold laterW
  rw [List.mem_flatMap]
  constructor
  · rintro ⟨q, hq, hz⟩
    obtain ⟨y, hy, rfl⟩ := List.mem_map.mp hz
    obtain ⟨h1, h2⟩ := List.mem_filter.mp hy
    exact ⟨q, hq, h1, of_decide_eq_true h2, rfl⟩
  · rintro ⟨q, hq, h1, h2, h3⟩
    refine ⟨q, hq, List.mem_map.mpr ⟨z.1, List.mem_filter.mpr ⟨h1, decide_eq_true h2⟩, ?_⟩⟩
    rw [← h3]
theorem laterW_more {f : Str → List Str} {sn : List Str} {rs : List (Str × List Str)} {i : Nat} {q : Str × List Str} (h : rs[i]? = some q) : laterW f sn (rs.take (i + 1)) = laterW f sn (rs.take i) ++ ((f q.1).filter fun y => decide (y ∉ sn)).map fun y => (y, q.2 ++ [y]) := by
  have e : rs.take (i + 1) = rs.take i ++ [q] := by rw [List.take_add_one, h]; rfl
  unfold laterW
  rw [e, List.flatMap_append]
  simp
theorem later_dst {a : Str} {k : Nat} {rs : List (Str × List Str)} {sn : List Str} (h : LvW N a k rs) (hs : SeenW N a k sn) (y : Str) : y ∈ (laterW N sn rs).map (·.1) ↔ Dst N a y (k + 1) := by
  constructor
  · intro hy
    obtain ⟨z, hz, rfl⟩ := List.mem_map.mp hy
    obtain ⟨q, hq, h1, h2, h3⟩ := mem_laterW.mp hz
    obtain ⟨e, f⟩ := h.fst q hq
    refine ⟨⟨q.2 ++ [z.1], by rw [List.length_append, e]; rfl, f.w.snoc h1⟩, fun s ws => ?_⟩
    rcases Nat.lt_or_ge s.length (k + 1) with c | c
    · obtain ⟨j, hj, d⟩ := Dst.of s.length rfl ws
      exact absurd ((hs.mem z.1).mpr ⟨j, by omega, d⟩) h2
    · exact c
  · intro d
    obtain ⟨c, dc, hc⟩ := d.pred
    obtain ⟨q, hq, rfl⟩ := List.mem_map.mp (h.all c dc)
    refine List.mem_map.mpr ⟨(y, q.2 ++ [y]), mem_laterW.mpr ⟨q, hq, hc, fun hm => ?_, rfl⟩, rfl⟩
    obtain ⟨j, hj, dj⟩ := (hs.mem y).mp hm
    have := dj.uniq d
    omega
theorem SeenW.next {a : Str} {k : Nat} {rs : List (Str × List Str)} {sn l : List Str} (h : LvW N a k rs) (hs : SeenW N a k sn) (g : GotX ((laterW N sn rs).map (·.1)) l) : SeenW N a (k + 1) (sn ++ sortN l) := by
  have m : ∀ x, x ∈ sortN l ↔ Dst N a x (k + 1) := fun x => by rw [sortN_mem, g.mem, later_dst h hs]
  refine ⟨fun x => ?_, List.nodup_append.mpr ⟨hs.nd, sortN_nd g.nd, fun x hx y hy e => ?_⟩⟩
  · rw [List.mem_append, hs.mem, m]
    constructor
    · rintro (⟨j, hj, d⟩ | d)
      · exact ⟨j, by omega, d⟩
      · exact ⟨k + 1, Nat.le_refl _, d⟩
    · rintro ⟨j, hj, d⟩
      rcases Nat.lt_or_ge k j with c | c
      · have : j = k + 1 := by omega
        subst this
        exact .inr d
      · exact .inl ⟨j, c, d⟩
  · subst e
    obtain ⟨j, hj, d⟩ := (hs.mem x).mp hx
    have := d.uniq ((m x).mp hy)
    omega
theorem GotX.sort {ks l m : List Str} (g : GotX ks l) (h : GotX ks m) : sortN l = sortN m :=
  sortN_eq ((List.perm_ext_iff_of_nodup g.nd h.nd).mpr fun x => (g.mem x).trans (h.mem x).symm)
/-- the least of the ways to y is the first -/
theorem later_first {a : Str} {k : Nat} {rs : List (Str × List Str)} {sn : List Str} (h : LvW N a k rs) (hs : SeenW N a k sn) {z : Str × List Str} (hz : z ∈ laterW N sn rs)
    (mn : ∀ m ∈ laterW N sn rs, m.1 = z.1 → leL leS (a :: z.2) (a :: m.2) = true) : z.2.length = k + 1 ∧ FstW leS N a z.1 z.2 := by
  have hd : Dst N a z.1 (k + 1) := (later_dst h hs z.1).mp (List.mem_map.mpr ⟨z, hz, rfl⟩)
  refine ⟨by obtain ⟨q, hq, h1, h2, h3⟩ := mem_laterW.mp hz; rw [h3, List.length_append, (h.fst q hq).1]; rfl, ?_⟩
  refine fst_step ordS (L := ((laterW N sn rs).filter fun m => decide (m.1 = z.1)).map (·.2)) hd (fun l hl => ?_) (fun c dc hc => ?_) (List.mem_map.mpr ⟨z, List.mem_filter.mpr ⟨hz, decide_eq_true rfl⟩, rfl⟩) fun m hm => ?_
  · obtain ⟨m, hm, rfl⟩ := List.mem_map.mp hl
    obtain ⟨hm1, hm2⟩ := List.mem_filter.mp hm
    have em := of_decide_eq_true hm2
    obtain ⟨q, hq, h1, h2, h3⟩ := mem_laterW.mp hm1
    rw [em] at h1 h3
    exact ⟨q.2, q.1, h3, (h.fst q hq).2, (h.fst q hq).1, h1⟩
  · obtain ⟨q, hq, rfl⟩ := List.mem_map.mp (h.all c dc)
    refine ⟨q.2, List.mem_map.mpr ⟨(z.1, q.2 ++ [z.1]), List.mem_filter.mpr ⟨mem_laterW.mpr ⟨q, hq, hc, fun hm => ?_, rfl⟩, decide_eq_true rfl⟩, rfl⟩, (h.fst q hq).2⟩
    obtain ⟨j, hj, dj⟩ := (hs.mem _).mp hm
    have := dj.uniq hd
    omega
  · obtain ⟨m', hm', rfl⟩ := List.mem_map.mp hm
    obtain ⟨hm1, hm2⟩ := List.mem_filter.mp hm'
    have := mn m' hm1 (of_decide_eq_true hm2)
    unfold leL at this
    rwa [if_pos rfl] at this
end
theorem LvW.le {nb : NB} {x : Str} (hx : x ∈ nb.map (·.1)) {k : Nat} {rs : List (Str × List Str)} (h : LvW (nbN nb) x k rs) : (∀ q ∈ rs, q.1 ∈ nb.map (·.1)) ∧ rs.length ≤ nb.length := by
  have sub : ∀ q ∈ rs, q.1 ∈ nb.map (·.1) := fun q hq => by
    have f := (h.fst q hq).2
    match e : q.2, f.w with
    | [], w => rw [← (show x = q.1 from w)]; exact hx
    | z :: r, w =>
      have l := w.last
      rw [List.getLast?_cons_cons] at l
      obtain ⟨u, hu⟩ := Wk.mem w q.1 (List.mem_of_getLast? l)
      exact nearN_sub (nbN_mem hu).2
  refine ⟨sub, ?_⟩
  have := nodup_le h.nd fun v hv => by
    obtain ⟨q, hq, rfl⟩ := List.mem_map.mp hv
    exact sub q hq
  rwa [List.length_map, List.length_map] at this
theorem laterW_len {f : Str → List Str} {sn : List Str} {n : Nat} (h : ∀ x, (f x).length < n) : ∀ rs : List (Str × List Str), (laterW f sn rs).length ≤ rs.length * n
  | [] => by simp [laterW]
  | q :: rs => by
    have ih := laterW_len (sn := sn) h rs
    unfold laterW at ih ⊢
    rw [List.flatMap_cons, List.length_append, List.length_map, List.length_cons, Nat.succ_mul]
    have := List.length_filter_le (fun y => decide (y ∉ sn)) (f q.1)
    have := h q.1
    omega
theorem lastD_app (x : Str) (r : List Str) (y : Str) : atD ((x :: (r ++ [y])).map D.str) (-1) = some (.str y) := by
  refine atD_last ?_ (by simp)
  rw [← List.cons_append]
  simp
end DL
namespace Lw
open PySem PySem.Spec PyProof.Rows L2 DL
local macro_rules | `(tactic| walk_at "st") => `(tactic| (first
  | with_reducible refine r_kT ?_ | with_reducible refine r_kF ?_ | with_reducible refine r_nT ?_ | with_reducible refine r_nF ?_ | with_reducible refine r_nx ?_ | with_reducible refine r_rt ?_ | with_reducible refine r_bk ?_ | with_reducible refine r_cn ?_ | with_reducible refine r_gN ?_ | with_reducible refine r_gCn ?_ | with_reducible refine r_gNl ?_ | ((with_reducible apply r_gT); (exact rfl)) | with_reducible refine r_sif ?_ | with_reducible refine r_set ?_ | with_reducible refine r_asg ?_ | with_reducible refine r_ret ?_ | with_reducible refine r_op ?_ | with_reducible refine r_test ?_
  | ((with_reducible apply r_var); (exact rfl)) | with_reducible refine r_c ?_ | with_reducible refine r_cons ?_ | with_reducible refine r_nil ?_ | with_reducible refine r_call ?_ | with_reducible refine r_cb ?_
  | with_reducible refine r_tup ?_ | with_reducible refine r_lst ?_ | with_reducible refine r_par ?_ | with_reducible refine r_setix ?_ | with_reducible refine r_and ?_ | with_reducible refine r_or ?_ | with_reducible refine r_not ?_
  | with_reducible refine r_if ?_ | with_reducible refine r_andV ?_ | with_reducible refine r_orV ?_ | with_reducible refine r_notV ?_ | with_reducible refine r_drop ?_ | with_reducible refine r_next ?_ | with_reducible refine r_un ?_ | with_reducible refine r_for ?_
  | with_reducible refine r_mtL ?_ | with_reducible refine r_mtL0 ?_ | with_reducible refine r_seqI ?_ | with_reducible refine r_tupI ?_ | with_reducible refine r_rg1 ?_ | with_reducible refine r_retN ?_ | with_reducible refine r_brk ?_ | with_reducible refine r_ct ?_
  | with_reducible refine r_ixR0 ?_ | with_reducible refine r_ixR1 ?_ | with_reducible refine r_add ?_ | with_reducible refine r_sub ?_ | with_reducible refine r_lt ?_ | with_reducible refine r_le ?_ | with_reducible refine r_gt ?_ | with_reducible refine r_ge ?_ | with_reducible refine r_neg ?_
  | with_reducible refine r_eqI ?_ | with_reducible refine r_neI ?_ | with_reducible refine r_eqR ?_ | with_reducible refine r_neR ?_ | with_reducible refine r_eqBs ?_ | with_reducible refine r_neBs ?_ | with_reducible refine r_isN ?_ | with_reducible refine r_notN ?_ | with_reducible refine r_isBs ?_ | with_reducible refine r_notBs ?_ | with_reducible refine r_isB ?_ | with_reducible refine r_notB ?_ | with_reducible refine r_eqB ?_ | with_reducible refine r_neB ?_ | with_reducible refine r_eqS ?_ | with_reducible refine r_neS ?_
  | ((with_reducible apply r_ixT); (exact rfl)) | ((with_reducible apply r_ixL); (exact rfl))
  | ((with_reducible apply r_ixM); (first | assumption | exact look_put (by assumption) | exact look_put (look_put (by assumption)) | exact look_put (look_put (look_put (by assumption))) | exact look_put (look_put (look_put (look_put (by assumption))))); (exact rfl))
  | ((with_reducible apply r_setL); (first | assumption | exact look_put (by assumption) | exact look_put (look_put (by assumption)) | exact look_put (look_put (look_put (by assumption))) | exact look_put (look_put (look_put (look_put (by assumption))))); (exact rfl))
  | ((with_reducible apply r_mul); (first | exact mulOk_r (by decide) | exact mulOk_l (by decide) | assumption | exact mulOk_r (by omega) | exact mulOk_l (by omega)))
  | ((with_reducible apply r_mod); (first | assumption | decide)) | ((with_reducible apply r_div); (first | assumption | exact ⟨by decide, by decide⟩)) | ((with_reducible apply r_pow); (exact ⟨by decide, by decide, by decide⟩))
  | ((with_reducible apply r_count); (exact rfl); (exact rfl)) | with_reducible refine r_abs ?_ | ((with_reducible apply r_isiT); (exact rfl)) | ((with_reducible apply r_isiF); (exact rfl)) | ((with_reducible apply r_isiTT); (exact rfl); (exact rfl); (exact rfl)) | ((with_reducible apply r_isiTF); (exact rfl); (exact rfl); (exact rfl)) | with_reducible refine r_tupleL ?_ | with_reducible refine r_tupleT ?_ | with_reducible refine r_sl ?_ | with_reducible refine r_revL ?_ | with_reducible refine r_revLL ?_ | with_reducible refine r_noPart ?_ | with_reducible refine DL.r_part ?_ | with_reducible refine r_slL ?_ | with_reducible refine r_slT ?_ | with_reducible refine r_yes ?_ | with_reducible refine r_comp ?_ | with_reducible refine r_zipL ?_ | with_reducible refine r_lenL ?_ | with_reducible refine r_lenT ?_ | with_reducible refine r_listL ?_ | with_reducible refine r_listT ?_ | with_reducible refine r_isL ?_
  | with_reducible refine r_ixB0 ?_ | with_reducible refine r_ixB1 ?_ | with_reducible refine r_ixB2 ?_ | with_reducible refine r_ixB3 ?_ | with_reducible refine r_eqDn ?_ | with_reducible refine r_eqAc ?_ | with_reducible refine r_frz ?_ | with_reducible refine r_frzH ?_ | (with_reducible refine ⟨_, _, rfl, look_hd, ?_⟩; rw [del_hd]) | with_reducible refine r_isMH ?_ | with_reducible refine r_lstM ?_ | with_reducible refine r_chain ?_ | with_reducible refine r_par3 ?_ | with_reducible refine r_callK ?_ | with_reducible refine r_anyI ?_ | with_reducible refine r_callD ?_
  | ((with_reducible apply r_aug); (exact rfl))))
local macro_rules | `(tactic| walk_at "g1") => `(tactic| repeat (walk_at "st"))
local macro_rules | `(tactic| walk_at "go") => `(tactic| repeat (first | with_reducible refine r_seq ?_ | walk_at "st"))
local macro_rules | `(tactic| walk_at "s2") => `(tactic| (first
  | with_reducible refine r_compM_ ?_ | with_reducible refine r_comp2 ?_ | with_reducible refine r_zip ?_ | with_reducible refine r_zipM ?_ | with_reducible refine r_lenH ?_ | with_reducible refine r_lenXL ?_ | with_reducible refine r_tupH ?_ | with_reducible refine r_tupXL ?_ | with_reducible refine r_tupXT ?_ | with_reducible refine r_listXH ?_ | with_reducible refine r_listXL ?_ | with_reducible refine r_listXT ?_ | with_reducible refine r_listML ?_ | with_reducible refine r_listMT ?_ | with_reducible refine r_listDD ?_ | with_reducible refine r_listDM ?_ | with_reducible refine r_dictDD ?_ | with_reducible refine r_min2 ?_ | with_reducible refine r_max2 ?_ | with_reducible refine r_sumL ?_ | with_reducible refine r_sumT ?_ | with_reducible refine r_clearH ?_ | with_reducible refine r_gStar ?_ | with_reducible refine r_gone ?_ | with_reducible refine r_goneH ?_ | with_reducible refine r_ix0 ?_ | with_reducible refine r_ix0T ?_ | with_reducible refine r_slAL ?_ | with_reducible refine r_slAT ?_ | with_reducible refine r_flatB ?_ | with_reducible refine r_dn1 ?_ | with_reducible refine r_ac1 ?_ | with_reducible refine r_dn2 ?_ | with_reducible refine r_ac2 ?_ | with_reducible refine r_dn3 ?_ | with_reducible refine r_ac3 ?_ | with_reducible refine r_dn4 ?_ | with_reducible refine r_ac4 ?_ | with_reducible refine r_dn5 ?_ | with_reducible refine r_ac5 ?_ | with_reducible refine r_app11 ?_ | with_reducible refine r_app12 ?_ | with_reducible refine r_app21 ?_ | with_reducible refine r_app22 ?_ | with_reducible refine r_app31 ?_ | with_reducible refine r_app32 ?_ | with_reducible refine r_app41 ?_ | with_reducible refine r_app42 ?_ | with_reducible refine r_app51 ?_ | with_reducible refine r_app52 ?_
  | ((with_reducible apply r_lenW); (assumption)) | ((with_reducible apply r_sumW); (assumption)) | ((with_reducible apply r_catLL); (walk_at "in")) | ((with_reducible apply r_catML); (walk_at "in")) | ((with_reducible apply r_catT); (walk_at "in")) | ((with_reducible apply r_catB); (walk_at "in")) | ((with_reducible apply r_appendH); (walk_at "in"))))
local macro_rules | `(tactic| walk_at "s0") => `(tactic| (first
  | with_reducible refine q_sif ?_ | with_reducible refine q_set ?_ | with_reducible refine q_asg ?_ | with_reducible refine q_ret ?_ | with_reducible refine q_drop ?_ | with_reducible refine q_next ?_ | with_reducible refine q_par ?_ | with_reducible refine q_for ?_ | with_reducible refine q_par3 ?_ | with_reducible refine q_setix ?_ | with_reducible refine q_brk ?_ | with_reducible refine q_ct ?_ | with_reducible refine q_retN ?_ | ((with_reducible apply q_aug); (exact rfl))))
local macro_rules | `(tactic| walk_at "cl") => `(tactic| fail)
local macro_rules | `(tactic| walk_at "n0") => `(tactic| (first | ((with_reducible refine g_e ?_); (first | with_reducible refine r_op ?_ | ((with_reducible apply r_var); (exact rfl)) | with_reducible refine r_c ?_ | with_reducible refine r_call ?_ | with_reducible refine r_cb ?_ | with_reducible refine r_tup ?_ | with_reducible refine r_lst ?_ | with_reducible refine r_if ?_ | with_reducible refine r_andV ?_ | with_reducible refine r_orV ?_ | with_reducible refine r_notV ?_ | with_reducible refine r_un ?_ | with_reducible refine r_mtL ?_ | with_reducible refine r_mtL0 ?_ | with_reducible refine r_sl ?_ | with_reducible refine r_revL ?_ | with_reducible refine r_revLL ?_ | with_reducible refine r_comp ?_ | with_reducible refine r_frz ?_ | with_reducible refine r_frzD ?_ | with_reducible refine r_lstM ?_ | with_reducible refine r_chain ?_ | with_reducible refine r_callK ?_ | with_reducible refine r_callD ?_ | with_reducible refine r_compM_ ?_ | with_reducible refine r_comp2 ?_ | with_reducible refine r_gone ?_ | with_reducible refine r_newK ?_ | with_reducible refine r_newT ?_ | with_reducible refine r_oneK ?_ | with_reducible refine r_lockD ?_ | with_reducible refine r_dcK ?_ | with_reducible refine r_dcT ?_ | with_reducible refine r_dcKT ?_ | with_reducible refine r_lstR ?_ | with_reducible refine r_lstZ ?_ | with_reducible refine r_lstRM ?_ | with_reducible refine r_mtD ?_ | with_reducible refine r_get2 ?_ | with_reducible refine r_lenSet ?_ | with_reducible refine r_lenSetX ?_ | with_reducible refine r_sortSetX ?_ | with_reducible refine r_lrep ?_ | with_reducible refine r_lrepM ?_ | with_reducible refine r_slrep ?_ | with_reducible refine r_callG ?_ | ((with_reducible apply r_lam); (walk_at "tb")) | with_reducible refine r_ask ?_ | with_reducible refine r_why ?_ | with_reducible refine r_lost ?_ | with_reducible refine r_m1 ?_ | with_reducible refine r_fmt ?_ | with_reducible refine r_joined ?_)) | ((with_reducible refine g_a ?_); (first | with_reducible refine r_cons ?_ | with_reducible refine r_nil ?_ | with_reducible refine r_seqI ?_ | with_reducible refine r_tupI ?_ | with_reducible refine r_rg1 ?_ | with_reducible refine r_zipL ?_ | with_reducible refine r_anyI ?_ | with_reducible refine r_zip ?_ | with_reducible refine r_zipM ?_ | with_reducible refine r_keysI ?_ | with_reducible refine r_itT ?_ | with_reducible refine r_strI ?_ | with_reducible refine r_orT ?_ | with_reducible refine r_itK ?_ | with_reducible refine r_rg2 ?_ | with_reducible refine r_rev1 ?_ | with_reducible refine r_enum ?_ | with_reducible refine r_rg3 ?_)) | ((with_reducible refine g_2 ?_); (first | with_reducible refine r_ixR0 ?_ | with_reducible refine r_ixR1 ?_ | with_reducible refine r_add ?_ | with_reducible refine r_sub ?_ | with_reducible refine r_lt ?_ | with_reducible refine r_le ?_ | with_reducible refine r_gt ?_ | with_reducible refine r_ge ?_ | with_reducible refine r_eqI ?_ | with_reducible refine r_neI ?_ | with_reducible refine r_eqR ?_ | with_reducible refine r_neR ?_ | with_reducible refine r_eqSs ?_ | with_reducible refine r_neSs ?_ | with_reducible refine r_eqBs ?_ | with_reducible refine r_neBs ?_ | with_reducible refine r_isN ?_ | with_reducible refine r_notN ?_ | with_reducible refine r_isBs ?_ | with_reducible refine r_notBs ?_ | with_reducible refine r_isB ?_ | with_reducible refine r_notB ?_ | with_reducible refine r_eqB ?_ | with_reducible refine r_neB ?_ | with_reducible refine r_eqS ?_ | with_reducible refine r_neS ?_ | ((with_reducible apply r_ixT); (exact rfl)) | ((with_reducible apply r_ixL); (exact rfl)) | ((with_reducible apply r_ixM); (first | assumption | exact look_put (by assumption) | exact look_put (look_put (by assumption)) | exact look_put (look_put (look_put (by assumption))) | exact look_put (look_put (look_put (look_put (by assumption))))); (exact rfl)) | ((with_reducible apply r_mul); (first | exact mulOk_r (by decide) | exact mulOk_l (by decide) | assumption | exact mulOk_r (by omega) | exact mulOk_l (by omega))) | ((with_reducible apply r_mod); (first | assumption | decide)) | ((with_reducible apply r_div); (first | assumption | exact ⟨by decide, by decide⟩)) | ((with_reducible apply r_pow); (exact ⟨by decide, by decide, by decide⟩)) | with_reducible refine r_ixB0 ?_ | with_reducible refine r_ixB1 ?_ | with_reducible refine r_ixB2 ?_ | with_reducible refine r_ixB3 ?_ | with_reducible refine r_eqDn ?_ | with_reducible refine r_eqAc ?_ | with_reducible refine r_ix0 ?_ | with_reducible refine r_ix0T ?_ | ((with_reducible apply r_catLL); (walk_at "in")) | ((with_reducible apply r_catML); (walk_at "in")) | ((with_reducible apply r_catT); (walk_at "in")) | ((with_reducible apply r_catB); (walk_at "in")) | ((with_reducible apply r_catS); (walk_at "in")) | with_reducible refine r_inS ?_ | ((with_reducible apply r_getSh); (walk_at "in"); (walk_at "in"); (walk_at "in")) | ((with_reducible apply r_getKI); (first | assumption | (walk_at "lk"))) | ((with_reducible apply r_getKS); (first | assumption | (walk_at "lk"))) | ((with_reducible apply r_getT2); (first | assumption | (walk_at "lk"))) | ((with_reducible apply r_getMI); (first | exact look_hd | assumption); (first | assumption | (walk_at "lk"))) | ((with_reducible apply r_getMS); (first | exact look_hd | assumption); (first | assumption | (walk_at "lk"))) | ((with_reducible apply r_getMT2); (first | exact look_hd | assumption); (first | assumption | (walk_at "lk"))) | with_reducible refine r_inKI ?_ | with_reducible refine r_inKS ?_ | with_reducible refine r_inT2 ?_ | with_reducible refine r_notKI ?_ | with_reducible refine r_notKS ?_ | with_reducible refine r_inLI ?_ | with_reducible refine r_inTI ?_ | with_reducible refine r_niLI ?_ | with_reducible refine r_niTI ?_ | with_reducible refine r_inLS ?_ | with_reducible refine r_niLS ?_ | ((with_reducible apply r_inMI); (first | exact look_hd | assumption)) | ((with_reducible apply r_inMS); (first | exact look_hd | assumption)) | ((with_reducible apply r_notMI); (first | exact look_hd | assumption)) | ((with_reducible apply r_notMS); (first | exact look_hd | assumption)))) | ((with_reducible refine g_c ?_); (first | with_unfolding_none refine r_kT ?_ | with_unfolding_none refine r_kF ?_ | with_unfolding_none refine r_nT ?_ | with_unfolding_none refine r_nF ?_ | with_reducible refine r_isL ?_ | with_reducible refine r_isMH ?_ | ((with_reducible apply r_isDM); (first | exact look_hd | assumption)) | with_reducible refine r_ddK ?_ | ((with_reducible apply r_ddM); (first | exact look_hd | assumption)) | with_reducible refine r_flatB ?_)) | ((with_reducible refine g_t ?_); (first | with_reducible refine r_test ?_ | with_reducible refine r_and ?_ | with_reducible refine r_or ?_ | with_reducible refine r_not ?_ | with_reducible refine r_yes ?_)) | ((with_reducible refine g_p ?_); (first | with_reducible refine r_dn1 ?_ | with_reducible refine r_ac1 ?_ | with_reducible refine r_dn2 ?_ | with_reducible refine r_ac2 ?_ | with_reducible refine r_dn3 ?_ | with_reducible refine r_ac3 ?_ | with_reducible refine r_dn4 ?_ | with_reducible refine r_ac4 ?_ | with_reducible refine r_dn5 ?_ | with_reducible refine r_ac5 ?_ | with_reducible refine r_app11 ?_ | with_reducible refine r_app12 ?_ | with_reducible refine r_app21 ?_ | with_reducible refine r_app22 ?_ | with_reducible refine r_app31 ?_ | with_reducible refine r_app32 ?_ | with_reducible refine r_app41 ?_ | with_reducible refine r_app42 ?_ | with_reducible refine r_app51 ?_ | with_reducible refine r_app52 ?_ | walk_at "cl")) | ((with_reducible refine g_n ?_); (first | with_reducible refine r_abs ?_ | ((with_reducible apply r_isiT); (exact rfl)) | ((with_reducible apply r_isiF); (exact rfl)) | ((with_reducible apply r_isiTT); (exact rfl); (exact rfl); (exact rfl)) | ((with_reducible apply r_isiTF); (exact rfl); (exact rfl); (exact rfl)) | with_reducible refine r_tupleL ?_ | with_reducible refine r_tupleT ?_ | with_reducible refine r_lenL ?_ | with_reducible refine r_lenT ?_ | with_reducible refine r_listL ?_ | with_reducible refine r_listT ?_ | with_reducible refine r_listB ?_ | with_reducible refine r_lenB ?_ | with_reducible refine r_lenH ?_ | with_reducible refine r_lenXL ?_ | with_reducible refine r_tupH ?_ | with_reducible refine r_tupXL ?_ | with_reducible refine r_tupXT ?_ | with_reducible refine r_listXH ?_ | with_reducible refine r_listXL ?_ | with_reducible refine r_listXT ?_ | with_reducible refine r_listML ?_ | with_reducible refine r_listMT ?_ | with_reducible refine r_listDD ?_ | with_reducible refine r_listDM ?_ | with_reducible refine r_dictDD ?_ | with_reducible refine r_min2 ?_ | with_reducible refine r_max2 ?_ | with_reducible refine r_sumL ?_ | with_reducible refine r_sumT ?_ | ((with_reducible apply r_lenW); (assumption)) | ((with_reducible apply r_sumW); (assumption)))) | ((with_reducible refine g_g ?_); (first | with_reducible refine r_gN ?_ | ((with_reducible apply r_gT); (exact rfl)) | ((with_reducible apply r_gL); (exact rfl)) | with_reducible refine r_gStar ?_)) | ((with_reducible refine g_gs ?_); (first | with_reducible refine r_gCn ?_ | with_reducible refine r_gNl ?_)) | ((with_reducible refine g_m ?_); (first | ((with_reducible apply r_count); (exact rfl); (exact rfl)) | with_reducible refine r_clearH ?_ | ((with_reducible apply r_appendH); (walk_at "in")) | ((with_reducible apply r_updH); (walk_at "in")))) | ((with_reducible refine g_o ?_); (first | with_reducible refine r_noPart ?_ | with_reducible refine DL.r_part ?_)) | ((with_reducible refine g_w ?_); (first | ((with_reducible apply r_setL); (first | assumption | exact look_put (by assumption) | exact look_put (look_put (by assumption)) | exact look_put (look_put (look_put (by assumption))) | exact look_put (look_put (look_put (look_put (by assumption))))); (exact rfl)) | ((with_reducible apply r_setKI); (walk_at "in")) | ((with_reducible apply r_setKS); (walk_at "in")))) | with_reducible refine r_isStr ?_ | with_reducible refine r_jsC ?_ | with_reducible refine r_jsN ?_ | with_reducible refine r_neg ?_ | with_reducible refine r_slL ?_ | with_reducible refine r_slT ?_ | with_reducible refine r_slB ?_ | with_reducible refine r_frzH ?_ | (with_reducible refine ⟨_, _, rfl, look_hd, ?_⟩; rw [del_hd]) | with_reducible refine r_goneH ?_ | with_reducible refine r_slAL ?_ | with_reducible refine r_slAT ?_ | ((with_reducible apply r_setT2); (walk_at "in")) | (with_reducible refine ⟨_, rfl, look_hd, ?_⟩; rw [put_hd]) | (with_reducible refine ⟨_, rfl, Or.inl ⟨_, look_hd, ?_⟩⟩; rw [del_hd]) | (with_reducible refine ⟨_, rfl, Or.inr ⟨_, look_hd, ?_⟩⟩; rw [del_hd]) | with_reducible refine r_goneEx ?_ | with_reducible refine r_gvKI ?_ | with_reducible refine r_gvKS ?_ | ((with_reducible apply r_gvMI); (first | exact look_hd | assumption)) | ((with_reducible apply r_gvMS); (first | exact look_hd | assumption)) | with_reducible refine r_ks2 ?_ | with_reducible refine r_kkI ?_ | with_reducible refine r_kkS ?_ | ((with_reducible apply r_pk2); (exact rfl); (exact rfl)) | ((with_reducible apply r_pk1); (exact rfl)) | ((with_reducible apply r_lrepE); (walk_at "in"); (walk_at "in")) | refine And.intro (show _ ∈ exL by decide) ⟨_, rfl, ?_⟩))
local macro_rules | `(tactic| walk_at "nS") => `(tactic| ((with_reducible refine g_s ?_); (first | with_reducible refine r_raise ?_ | with_reducible refine r_raise1 ?_ | with_reducible refine r_raiseD ?_ | with_reducible refine q_sif ?_ | with_reducible refine q_set ?_ | with_reducible refine q_asg ?_ | with_reducible refine q_ret ?_ | with_reducible refine q_drop ?_ | with_reducible refine q_next ?_ | with_reducible refine q_par ?_ | with_reducible refine q_for ?_ | with_reducible refine q_par3 ?_ | with_reducible refine q_setix ?_ | with_reducible refine q_brk ?_ | with_reducible refine q_ct ?_ | with_reducible refine q_retN ?_ | with_reducible refine q_setDK ?_ | with_reducible refine q_setDT ?_ | with_reducible refine q_goneA ?_ | with_reducible refine q_frzA ?_ | with_reducible refine q_lockA ?_ | with_reducible refine q_setSl ?_ | ((with_reducible apply q_aug); (exact rfl)))))
local macro_rules | `(tactic| walk_at "nQ") => `(tactic| ((with_reducible refine g_s ?_); (first | with_reducible refine r_raise ?_ | with_reducible refine r_raise1 ?_ | with_reducible refine r_raiseD ?_ | with_reducible refine r_seq ?_ | with_reducible refine q_sif ?_ | with_reducible refine q_set ?_ | with_reducible refine q_asg ?_ | with_reducible refine q_ret ?_ | with_reducible refine q_drop ?_ | with_reducible refine q_next ?_ | with_reducible refine q_par ?_ | with_reducible refine q_for ?_ | with_reducible refine q_par3 ?_ | with_reducible refine q_setix ?_ | with_reducible refine q_brk ?_ | with_reducible refine q_ct ?_ | with_reducible refine q_retN ?_ | with_reducible refine q_setDK ?_ | with_reducible refine q_setDT ?_ | with_reducible refine q_goneA ?_ | with_reducible refine q_frzA ?_ | with_reducible refine q_lockA ?_ | with_reducible refine q_setSl ?_ | ((with_reducible apply q_aug); (exact rfl)))))
local macro_rules | `(tactic| walk_at "lk") => `(tactic| fail)
local macro_rules | `(tactic| walk_at "ge") => `(tactic| first | assumption | exact Rat.le_refl)
local macro_rules | `(tactic| walk_at "G1") => `(tactic| repeat (first | walk_at "nS" | walk_at "n0"))
local macro_rules | `(tactic| walk_at "GO") => `(tactic| repeat (first | walk_at "nQ" | walk_at "n0"))
local macro_rules | `(tactic| walk_at "nz") => `(tactic| first | assumption | (refine Rat.ne_of_gt ?_; walk_at "pz"))
local macro_rules | `(tactic| walk_at "pz") => `(tactic| first | assumption | (refine Bx.Pos.w ?_; assumption) | (refine Bx.Pos.h ?_; assumption) | (apply Rat.mul_pos <;> walk_at "pz") | (apply divInt_pos' <;> omega) | (apply Rat.div_pos <;> walk_at "pz"))
local macro_rules | `(tactic| walk_at "sy") => `(tactic| first | assumption | ((apply Bx.Sz.l); assumption) | ((apply Bx.Sz.t); assumption) | ((apply Bx.Sz.w); assumption) | ((apply Bx.Sz.h); assumption) | (apply Sz.absR; walk_at "sy") | (apply Sz.add <;> walk_at "sy") | (apply Sz.sub <;> walk_at "sy") | (apply Sz.mul <;> walk_at "sy") | ((apply Sz.shape); (walk_at "sy"); (walk_at "sy"); (walk_at "pz"); (walk_at "pz")) | ((apply Sz.div); (walk_at "sy"); (walk_at "sy"); (walk_at "nz")) | (apply Sz.frac <;> omega))
local macro_rules | `(tactic| walk_at "sz") => `(tactic| first | assumption | ((apply Sz.mono); (walk_at "sy"); (decide)) | ((apply Bx.Sz.mono); (assumption); (decide)) | exact ⟨by decide, by decide⟩)
local macro_rules | `(tactic| walk_at "bg") => `(tactic| first | assumption | exact BagStep.bag (by assumption) | ((refine BagIn.over ?_ ?_); (assumption); (walk_at "bg")))
local macro_rules | `(tactic| walk_at "in") => `(tactic| first | with_reducible assumption | omega | decide | (simp only [List.length_map, List.length_cons, List.length_nil, List.length_append, List.length_take, List.length_drop]; omega))
local macro_rules | `(tactic| walk_at "wd") => `(tactic| first | assumption | exact WD.l _ | exact WD.t _)
local macro_rules | `(tactic| walk_at "p9") => `(tactic| first | assumption | exact szlt (by omega) (by omega))
local macro_rules | `(tactic| walk_at "pb") => `(tactic| first | assumption)
local macro_rules | `(tactic| walk_at "zs") => `(tactic| first | assumption)
local macro_rules | `(tactic| walk_at "pl") => `(tactic| first | assumption | rfl | ((apply plD_Bxs); (walk_at "in")) | ((apply plD_ints); (walk_at "in")) | ((apply plD_intsT); (walk_at "in")) | exact plD_dR _)
local macro_rules | `(tactic| walk_at "tb") => `(tactic| first | with_reducible assumption | (apply tb_step; assumption; assumption; walk_at "tb") | (apply tb_cons; assumption; walk_at "tb") | (apply tb_put; assumption; walk_at "tb"))
local macro_rules | `(tactic| walk_at "nm") => `(tactic| first | assumption | (refine List.mem_map.mpr ⟨(_, _), ?_, rfl⟩; assumption))
local macro_rules | `(tactic| walk_at "wk") => `(tactic| first | assumption | exact WtOk.wok (by assumption))
abbrev FnP (K : PySem.W.Frag) (x : Str) (st : Stmt) (kws : List (Str × V)) (f : Addr) (fd : FuncData) (dvs : List V := []) : Prop := FunD K x x (defArgs st) (defBody st) (defScope st) dvs kws f fd
/-- what the top has written -/
structure Txt (K : PySem.W.Frag) (mg : Str → Option Value) (base : Heap) : Type where
  fd_law_bag : FuncData
  F_law_bag : FnP K "_law_bag" s_law_bag [] (He.ga K "_law_bag") fd_law_bag
  g_law_bag : mg "_law_bag" = some (.ref (He.ga K "_law_bag"))
  fd_law_get : FuncData
  F_law_get : FnP K "_law_get" s_law_get [] (He.ga K "_law_get") fd_law_get
  g_law_get : mg "_law_get" = some (.ref (He.ga K "_law_get"))
  fd_law_weight : FuncData
  F_law_weight : FnP K "_law_weight" s_law_weight [] (He.ga K "_law_weight") fd_law_weight
  g_law_weight : mg "_law_weight" = some (.ref (He.ga K "_law_weight"))
  fd_law_weights : FuncData
  F_law_weights : FnP K "_law_weights" s_law_weights [] (He.ga K "_law_weights") fd_law_weights
  g_law_weights : mg "_law_weights" = some (.ref (He.ga K "_law_weights"))
  fd_law_gcd : FuncData
  F_law_gcd : FnP K "_law_gcd" s_law_gcd [] (He.ga K "_law_gcd") fd_law_gcd
  g_law_gcd : mg "_law_gcd" = some (.ref (He.ga K "_law_gcd"))
  fd_law_part : FuncData
  F_law_part : FnP K "_law_part" s_law_part [] (He.ga K "_law_part") fd_law_part
  g_law_part : mg "_law_part" = some (.ref (He.ga K "_law_part"))
  fd_law_far : FuncData
  F_law_far : FnP K "_law_far" s_law_far [] (He.ga K "_law_far") fd_law_far
  g_law_far : mg "_law_far" = some (.ref (He.ga K "_law_far"))
  fd_law_number : FuncData
  F_law_number : FnP K "_law_number" s_law_number [] (He.ga K "_law_number") fd_law_number
  g_law_number : mg "_law_number" = some (.ref (He.ga K "_law_number"))
  fd_law_some_part : FuncData
  F_law_some_part : FnP K "_law_some_part" s_law_some_part [] (He.ga K "_law_some_part") fd_law_some_part
  g_law_some_part : mg "_law_some_part" = some (.ref (He.ga K "_law_some_part"))
  fd_law_above : FuncData
  F_law_above : FnP K "_law_above" s_law_above [] (He.ga K "_law_above") fd_law_above
  g_law_above : mg "_law_above" = some (.ref (He.ga K "_law_above"))
  fd_law_plain_box : FuncData
  F_law_plain_box : FnP K "_law_plain_box" s_law_plain_box [] (He.ga K "_law_plain_box") fd_law_plain_box
  g_law_plain_box : mg "_law_plain_box" = some (.ref (He.ga K "_law_plain_box"))
  fd_law_pick : FuncData
  F_law_pick : FnP K "_law_pick" s_law_pick [] (He.ga K "_law_pick") fd_law_pick
  g_law_pick : mg "_law_pick" = some (.ref (He.ga K "_law_pick"))
  fd_law_names : FuncData
  F_law_names : FnP K "_law_names" s_law_names [] (He.ga K "_law_names") fd_law_names
  g_law_names : mg "_law_names" = some (.ref (He.ga K "_law_names"))
  fd_law_parted : FuncData
  F_law_parted : FnP K "_law_parted" s_law_parted [] (He.ga K "_law_parted") fd_law_parted
  g_law_parted : mg "_law_parted" = some (.ref (He.ga K "_law_parted"))
  fd_law_plus : FuncData
  F_law_plus : FnP K "_law_plus" s_law_plus [] (He.ga K "_law_plus") fd_law_plus
  g_law_plus : mg "_law_plus" = some (.ref (He.ga K "_law_plus"))
  fd_law_times : FuncData
  F_law_times : FnP K "_law_times" s_law_times [] (He.ga K "_law_times") fd_law_times
  g_law_times : mg "_law_times" = some (.ref (He.ga K "_law_times"))
  fd_law_split : FuncData
  F_law_split : FnP K "_law_split" s_law_split [] (He.ga K "_law_split") fd_law_split
  g_law_split : mg "_law_split" = some (.ref (He.ga K "_law_split"))
  fd_law_turned_lean : FuncData
  F_law_turned_lean : FnP K "_law_turned_lean" s_law_turned_lean [] (He.ga K "_law_turned_lean") fd_law_turned_lean
  g_law_turned_lean : mg "_law_turned_lean" = some (.ref (He.ga K "_law_turned_lean"))
  fd_law_laid : FuncData
  F_law_laid : FnP K "_law_laid" s_law_laid [] (He.ga K "_law_laid") fd_law_laid
  g_law_laid : mg "_law_laid" = some (.ref (He.ga K "_law_laid"))
  fd_law_sizes : FuncData
  F_law_sizes : FnP K "_law_sizes" s_law_sizes [] (He.ga K "_law_sizes") fd_law_sizes
  g_law_sizes : mg "_law_sizes" = some (.ref (He.ga K "_law_sizes"))
  fd_law_lean : FuncData
  F_law_lean : FnP K "_law_lean" s_law_lean [] (He.ga K "_law_lean") fd_law_lean
  g_law_lean : mg "_law_lean" = some (.ref (He.ga K "_law_lean"))
  fd_law_boxes_named : FuncData
  F_law_boxes_named : FnP K "_law_boxes_named" s_law_boxes_named [] (He.ga K "_law_boxes_named") fd_law_boxes_named
  g_law_boxes_named : mg "_law_boxes_named" = some (.ref (He.ga K "_law_boxes_named"))
  fd_law_ends : FuncData
  F_law_ends : FnP K "_law_ends" s_law_ends [] (He.ga K "_law_ends") fd_law_ends
  g_law_ends : mg "_law_ends" = some (.ref (He.ga K "_law_ends"))
  fd_need_named : FuncData
  F_need_named : FnP K "need_named" s_need_named [] (He.ga K "need_named") fd_need_named
  g_need_named : mg "need_named" = some (.ref (He.ga K "need_named"))
  fd_common : FuncData
  F_common : FnP K "common" s_common [] (He.ga K "common") fd_common
  g_common : mg "common" = some (.ref (He.ga K "common"))
  fd_part : FuncData
  F_part : FnP K "part" s_part [] (He.ga K "part") fd_part
  g_part : mg "part" = some (.ref (He.ga K "part"))
  fd_plus : FuncData
  F_plus : FnP K "plus" s_plus [] (He.ga K "plus") fd_plus
  g_plus : mg "plus" = some (.ref (He.ga K "plus"))
  fd_ends : FuncData
  F_ends : FnP K "ends" s_ends [] (He.ga K "ends") fd_ends
  g_ends : mg "ends" = some (.ref (He.ga K "ends"))
  fd_less : FuncData
  F_less : FnP K "less" s_less [] (He.ga K "less") fd_less
  g_less : mg "less" = some (.ref (He.ga K "less"))
  fd_minus : FuncData
  F_minus : FnP K "minus" s_minus [] (He.ga K "minus") fd_minus
  g_minus : mg "minus" = some (.ref (He.ga K "minus"))
  fd_overlap : FuncData
  F_overlap : FnP K "overlap" s_overlap [] (He.ga K "overlap") fd_overlap
  g_overlap : mg "overlap" = some (.ref (He.ga K "overlap"))
  fd_edge_between : FuncData
  F_edge_between : FnP K "edge_between" s_edge_between [] (He.ga K "edge_between") fd_edge_between
  g_edge_between : mg "edge_between" = some (.ref (He.ga K "edge_between"))
  fd_near : FuncData
  F_near : FnP K "near" s_near [] (He.ga K "near") fd_near
  g_near : mg "near" = some (.ref (He.ga K "near"))
  fd_way : FuncData
  F_way : FnP K "way" s_way [] (He.ga K "way") fd_way
  g_way : mg "way" = some (.ref (He.ga K "way"))
  fd_law_same : FuncData
  F_law_same : FnP K "_law_same" s_law_same [] (He.ga K "_law_same") fd_law_same
  g_law_same : mg "_law_same" = some (.ref (He.ga K "_law_same"))
  fd_law_less : FuncData
  F_law_less : FnP K "_law_less" s_law_less [] (He.ga K "_law_less") fd_law_less
  g_law_less : mg "_law_less" = some (.ref (He.ga K "_law_less"))
  fd_law_minus : FuncData
  F_law_minus : FnP K "_law_minus" s_law_minus [] (He.ga K "_law_minus") fd_law_minus
  g_law_minus : mg "_law_minus" = some (.ref (He.ga K "_law_minus"))
  fd_law_common : FuncData
  F_law_common : FnP K "_law_common" s_law_common [] (He.ga K "_law_common") fd_law_common
  g_law_common : mg "_law_common" = some (.ref (He.ga K "_law_common"))
  fd_law_edge : FuncData
  F_law_edge : FnP K "_law_edge" s_law_edge [] (He.ga K "_law_edge") fd_law_edge
  g_law_edge : mg "_law_edge" = some (.ref (He.ga K "_law_edge"))
  fd_law_near : FuncData
  F_law_near : FnP K "_law_near" s_law_near [] (He.ga K "_law_near") fd_law_near
  g_law_near : mg "_law_near" = some (.ref (He.ga K "_law_near"))
  fd_law_way : FuncData
  F_law_way : FnP K "_law_way" s_law_way [] (He.ga K "_law_way") fd_law_way
  g_law_way : mg "_law_way" = some (.ref (He.ga K "_law_way"))
  fd_law : FuncData
  F_law : FnP K "law" s_law [] (He.ga K "law") fd_law
  g_law : mg "law" = some (.ref (He.ga K "law"))
  n_abs : mg "abs" = none
  n_all : mg "all" = none
  n_bool : mg "bool" = none
  n_dict : mg "dict" = none
  n_enumerate : mg "enumerate" = none
  n_int : mg "int" = none
  n_isinstance : mg "isinstance" = none
  n_len : mg "len" = none
  n_list : mg "list" = none
  n_min : mg "min" = none
  n_range : mg "range" = none
  n_set : mg "set" = none
  n_sorted : mg "sorted" = none
  n_str : mg "str" = none
  n_sum : mg "sum" = none
  n_tuple : mg "tuple" = none
  n_zip : mg "zip" = none
  g_NOUGHT : mg "NOUGHT" = some (.ref (He.ga K "NOUGHT"))
  k_NOUGHT : He.tupB K "NOUGHT" [.int 0, .int 1] = true
theorem b_law_bag {K : PySem.W.Frag} {mg : Str → Option Value} {base : Heap} (T : Txt K mg base) : Binds K T.fd_law_bag ["_law_script"] [] := FunD.bindsN T.F_law_bag fun _ _ _ _ _ _ us hl => match us, hl with | [_], _ => rfl
theorem b_law_get {K : PySem.W.Frag} {mg : Str → Option Value} {base : Heap} (T : Txt K mg base) : Binds K T.fd_law_get ["_law_bag_here", "_law_most"] [] := FunD.bindsN T.F_law_get fun _ _ _ _ _ _ us hl => match us, hl with | [_, _], _ => rfl
theorem b_law_weight {K : PySem.W.Frag} {mg : Str → Option Value} {base : Heap} (T : Txt K mg base) : Binds K T.fd_law_weight ["_law_bag_here", "_law_kind"] [] := FunD.bindsN T.F_law_weight fun _ _ _ _ _ _ us hl => match us, hl with | [_, _], _ => rfl
theorem b_law_weights {K : PySem.W.Frag} {mg : Str → Option Value} {base : Heap} (T : Txt K mg base) : Binds K T.fd_law_weights ["_law_bag_here", "_law_most"] [] := FunD.bindsN T.F_law_weights fun _ _ _ _ _ _ us hl => match us, hl with | [_, _], _ => rfl
theorem b_law_gcd {K : PySem.W.Frag} {mg : Str → Option Value} {base : Heap} (T : Txt K mg base) : Binds K T.fd_law_gcd ["_law_one", "_law_other"] [] := FunD.bindsN T.F_law_gcd fun _ _ _ _ _ _ us hl => match us, hl with | [_, _], _ => rfl
theorem b_law_part {K : PySem.W.Frag} {mg : Str → Option Value} {base : Heap} (T : Txt K mg base) : Binds K T.fd_law_part ["_law_above_here", "_law_below"] [] := FunD.bindsN T.F_law_part fun _ _ _ _ _ _ us hl => match us, hl with | [_, _], _ => rfl
theorem b_law_far {K : PySem.W.Frag} {mg : Str → Option Value} {base : Heap} (T : Txt K mg base) : Binds K T.fd_law_far ["_law_bag_here", "_law_steps"] [] := FunD.bindsN T.F_law_far fun _ _ _ _ _ _ us hl => match us, hl with | [_, _], _ => rfl
theorem b_law_number {K : PySem.W.Frag} {mg : Str → Option Value} {base : Heap} (T : Txt K mg base) : Binds K T.fd_law_number ["_law_bag_here"] [] := FunD.bindsN T.F_law_number fun _ _ _ _ _ _ us hl => match us, hl with | [_], _ => rfl
theorem b_law_some_part {K : PySem.W.Frag} {mg : Str → Option Value} {base : Heap} (T : Txt K mg base) : Binds K T.fd_law_some_part ["_law_bag_here"] [] := FunD.bindsN T.F_law_some_part fun _ _ _ _ _ _ us hl => match us, hl with | [_], _ => rfl
theorem b_law_above {K : PySem.W.Frag} {mg : Str → Option Value} {base : Heap} (T : Txt K mg base) : Binds K T.fd_law_above ["_law_bag_here"] [] := FunD.bindsN T.F_law_above fun _ _ _ _ _ _ us hl => match us, hl with | [_], _ => rfl
theorem b_law_plain_box {K : PySem.W.Frag} {mg : Str → Option Value} {base : Heap} (T : Txt K mg base) : Binds K T.fd_law_plain_box ["_law_bag_here"] [] := FunD.bindsN T.F_law_plain_box fun _ _ _ _ _ _ us hl => match us, hl with | [_], _ => rfl
theorem b_law_pick {K : PySem.W.Frag} {mg : Str → Option Value} {base : Heap} (T : Txt K mg base) : Binds K T.fd_law_pick ["_law_bag_here", "_law_some"] [] := FunD.bindsN T.F_law_pick fun _ _ _ _ _ _ us hl => match us, hl with | [_, _], _ => rfl
theorem b_law_names {K : PySem.W.Frag} {mg : Str → Option Value} {base : Heap} (T : Txt K mg base) : Binds K T.fd_law_names ["_law_bag_here", "_law_many"] [] := FunD.bindsN T.F_law_names fun _ _ _ _ _ _ us hl => match us, hl with | [_, _], _ => rfl
theorem b_law_parted {K : PySem.W.Frag} {mg : Str → Option Value} {base : Heap} (T : Txt K mg base) : Binds K T.fd_law_parted ["_law_things_now", "_law_sizes_here"] [] := FunD.bindsN T.F_law_parted fun _ _ _ _ _ _ us hl => match us, hl with | [_, _], _ => rfl
theorem b_law_plus {K : PySem.W.Frag} {mg : Str → Option Value} {base : Heap} (T : Txt K mg base) : Binds K T.fd_law_plus ["_law_one", "_law_other"] [] := FunD.bindsN T.F_law_plus fun _ _ _ _ _ _ us hl => match us, hl with | [_, _], _ => rfl
theorem b_law_times {K : PySem.W.Frag} {mg : Str → Option Value} {base : Heap} (T : Txt K mg base) : Binds K T.fd_law_times ["_law_one", "_law_other"] [] := FunD.bindsN T.F_law_times fun _ _ _ _ _ _ us hl => match us, hl with | [_, _], _ => rfl
theorem b_law_split {K : PySem.W.Frag} {mg : Str → Option Value} {base : Heap} (T : Txt K mg base) : Binds K T.fd_law_split ["_law_box", "_law_weights_here", "_law_lean_here"] [] := FunD.bindsN T.F_law_split fun _ _ _ _ _ _ us hl => match us, hl with | [_, _, _], _ => rfl
theorem b_law_turned_lean {K : PySem.W.Frag} {mg : Str → Option Value} {base : Heap} (T : Txt K mg base) : Binds K T.fd_law_turned_lean ["_law_lean_here"] [] := FunD.bindsN T.F_law_turned_lean fun _ _ _ _ _ _ us hl => match us, hl with | [_], _ => rfl
theorem b_law_laid {K : PySem.W.Frag} {mg : Str → Option Value} {base : Heap} (T : Txt K mg base) : Binds K T.fd_law_laid ["_law_box", "_law_weights_here", "_law_sizes_here", "_law_lean_here"] [] := FunD.bindsN T.F_law_laid fun _ _ _ _ _ _ us hl => match us, hl with | [_, _, _, _], _ => rfl
theorem b_law_sizes {K : PySem.W.Frag} {mg : Str → Option Value} {base : Heap} (T : Txt K mg base) : Binds K T.fd_law_sizes ["_law_bag_here", "_law_many"] [] := FunD.bindsN T.F_law_sizes fun _ _ _ _ _ _ us hl => match us, hl with | [_, _], _ => rfl
theorem b_law_lean {K : PySem.W.Frag} {mg : Str → Option Value} {base : Heap} (T : Txt K mg base) : Binds K T.fd_law_lean ["_law_bag_here"] [] := FunD.bindsN T.F_law_lean fun _ _ _ _ _ _ us hl => match us, hl with | [_], _ => rfl
theorem b_law_boxes_named {K : PySem.W.Frag} {mg : Str → Option Value} {base : Heap} (T : Txt K mg base) : Binds K T.fd_law_boxes_named ["_law_bag_here", "_law_most"] [] := FunD.bindsN T.F_law_boxes_named fun _ _ _ _ _ _ us hl => match us, hl with | [_, _], _ => rfl
theorem b_law_ends {K : PySem.W.Frag} {mg : Str → Option Value} {base : Heap} (T : Txt K mg base) : Binds K T.fd_law_ends ["_law_box"] [] := FunD.bindsN T.F_law_ends fun _ _ _ _ _ _ us hl => match us, hl with | [_], _ => rfl
theorem b_need_named {K : PySem.W.Frag} {mg : Str → Option Value} {base : Heap} (T : Txt K mg base) : Binds K T.fd_need_named ["boxes", "name"] [] := FunD.bindsN T.F_need_named fun _ _ _ _ _ _ us hl => match us, hl with | [_, _], _ => rfl
theorem b_common {K : PySem.W.Frag} {mg : Str → Option Value} {base : Heap} (T : Txt K mg base) : Binds K T.fd_common ["one", "other"] [] := FunD.bindsN T.F_common fun _ _ _ _ _ _ us hl => match us, hl with | [_, _], _ => rfl
theorem b_part {K : PySem.W.Frag} {mg : Str → Option Value} {base : Heap} (T : Txt K mg base) : Binds K T.fd_part ["above", "below"] [] := FunD.bindsN T.F_part fun _ _ _ _ _ _ us hl => match us, hl with | [_, _], _ => rfl
theorem b_plus {K : PySem.W.Frag} {mg : Str → Option Value} {base : Heap} (T : Txt K mg base) : Binds K T.fd_plus ["one", "other"] [] := FunD.bindsN T.F_plus fun _ _ _ _ _ _ us hl => match us, hl with | [_, _], _ => rfl
theorem b_ends {K : PySem.W.Frag} {mg : Str → Option Value} {base : Heap} (T : Txt K mg base) : Binds K T.fd_ends ["box"] [] := FunD.bindsN T.F_ends fun _ _ _ _ _ _ us hl => match us, hl with | [_], _ => rfl
theorem b_less {K : PySem.W.Frag} {mg : Str → Option Value} {base : Heap} (T : Txt K mg base) : Binds K T.fd_less ["one", "other"] [] := FunD.bindsN T.F_less fun _ _ _ _ _ _ us hl => match us, hl with | [_, _], _ => rfl
theorem b_minus {K : PySem.W.Frag} {mg : Str → Option Value} {base : Heap} (T : Txt K mg base) : Binds K T.fd_minus ["one", "other"] [] := FunD.bindsN T.F_minus fun _ _ _ _ _ _ us hl => match us, hl with | [_, _], _ => rfl
theorem b_overlap {K : PySem.W.Frag} {mg : Str → Option Value} {base : Heap} (T : Txt K mg base) : Binds K T.fd_overlap ["low", "high", "start", "end"] [] := FunD.bindsN T.F_overlap fun _ _ _ _ _ _ us hl => match us, hl with | [_, _, _, _], _ => rfl
theorem b_edge_between {K : PySem.W.Frag} {mg : Str → Option Value} {base : Heap} (T : Txt K mg base) : Binds K T.fd_edge_between ["one", "other"] [] := FunD.bindsN T.F_edge_between fun _ _ _ _ _ _ us hl => match us, hl with | [_, _], _ => rfl
theorem b_near {K : PySem.W.Frag} {mg : Str → Option Value} {base : Heap} (T : Txt K mg base) : Binds K T.fd_near ["boxes", "name"] [] := FunD.bindsN T.F_near fun _ _ _ _ _ _ us hl => match us, hl with | [_, _], _ => rfl
theorem b_way {K : PySem.W.Frag} {mg : Str → Option Value} {base : Heap} (T : Txt K mg base) : Binds K T.fd_way ["boxes", "one", "other"] [] := FunD.bindsN T.F_way fun _ _ _ _ _ _ us hl => match us, hl with | [_, _, _], _ => rfl
theorem b_law_same {K : PySem.W.Frag} {mg : Str → Option Value} {base : Heap} (T : Txt K mg base) : Binds K T.fd_law_same ["_law_found", "_law_due"] [] := FunD.bindsN T.F_law_same fun _ _ _ _ _ _ us hl => match us, hl with | [_, _], _ => rfl
theorem b_law_less {K : PySem.W.Frag} {mg : Str → Option Value} {base : Heap} (T : Txt K mg base) : Binds K T.fd_law_less ["_law_one", "_law_other"] [] := FunD.bindsN T.F_law_less fun _ _ _ _ _ _ us hl => match us, hl with | [_, _], _ => rfl
theorem b_law_minus {K : PySem.W.Frag} {mg : Str → Option Value} {base : Heap} (T : Txt K mg base) : Binds K T.fd_law_minus ["_law_one", "_law_other"] [] := FunD.bindsN T.F_law_minus fun _ _ _ _ _ _ us hl => match us, hl with | [_, _], _ => rfl
theorem b_law_common {K : PySem.W.Frag} {mg : Str → Option Value} {base : Heap} (T : Txt K mg base) : Binds K T.fd_law_common ["_law_low", "_law_high", "_law_start", "_law_end"] [] := FunD.bindsN T.F_law_common fun _ _ _ _ _ _ us hl => match us, hl with | [_, _, _, _], _ => rfl
theorem b_law_edge {K : PySem.W.Frag} {mg : Str → Option Value} {base : Heap} (T : Txt K mg base) : Binds K T.fd_law_edge ["_law_one", "_law_other"] [] := FunD.bindsN T.F_law_edge fun _ _ _ _ _ _ us hl => match us, hl with | [_, _], _ => rfl
theorem b_law_near {K : PySem.W.Frag} {mg : Str → Option Value} {base : Heap} (T : Txt K mg base) : Binds K T.fd_law_near ["_law_boxes_now", "_law_name"] [] := FunD.bindsN T.F_law_near fun _ _ _ _ _ _ us hl => match us, hl with | [_, _], _ => rfl
theorem b_law_way {K : PySem.W.Frag} {mg : Str → Option Value} {base : Heap} (T : Txt K mg base) : Binds K T.fd_law_way ["_law_boxes_now", "_law_one", "_law_other"] [] := FunD.bindsN T.F_law_way fun _ _ _ _ _ _ us hl => match us, hl with | [_, _, _], _ => rfl
abbrev tbD (K : PySem.W.Frag) : List (Addr × Str) := []
def sp_law (K : PySem.W.Frag) : DSp := sp_lawT (tbls (tbD K))
def sp_law_bag : DSp := fun ds cs P _ => ∃ ns : List Int, ds = [.lst (ns.map D.int)] ∧ ∀ p b, p ∉ adr cs → BagOk b → P (.opq (.ref p)) ((p, b) :: cs)
theorem sc_law_bag : FnScope ["_law_script"] ["_law_script"] (defScope s_law_bag) := ⟨rfl, rfl, rfl, by decide +kernel, rfl, by decide +kernel, by decide +kernel⟩
theorem ok_law_bag {P : Program} {w : World} {K : PySem.W.Frag} {mg : Str → Option Value} {base : Heap} (T : Txt K mg base) : FnOk P w K mg base (L2.CX P w) 1 (He.ga K "_law_bag") T.fd_law_bag ["_law_script"] (spL K 1 sp_law_bag) := by
  apply ok_def (k := 0) T.F_law_bag sc_law_bag
  case hb =>
    intro cdv A outer s H E hr
    exact (dss_one (ds_ret (d_lstM (da_cons (d_callTy call_list_of adq_list rfl T.n_list (by decide +kernel) (da_cons (d_slice sl_list adq_slL (d_var 0) do_none (do_some d_int)) da_nil)) (da_cons d_int (da_cons d_int (da_cons (d_add d_int (d_callB call_len_seq adq_len rfl T.n_len (by decide +kernel) (da_cons (d_slice sl_list adq_slL (d_var 0) do_none (do_some d_int)) da_nil))) (da_cons d_int da_nil))))))))
  case hsp =>
    skip
    rintro ds cs Q Z ⟨ns, rfl, h⟩ _
    show ∀ p, p ∉ adr cs → Q (.opq (.ref p)) ((p, .lst [.lst (DL.cutD (ns.map D.int) none (some 63)), .int 0, .int 0, .int (9103 + ((DL.cutD (ns.map D.int) none (some 63)).length : Int)), .int 0]) :: cs)
    intro p hp
    have e : DL.cutD (ns.map D.int) none (some 63) = (ns.take (min 63 ns.length)).map D.int := by
      unfold DL.cutD
      simp [HT.sIx, List.map_take]
    have l : (DL.cutD (ns.map D.int) none (some 63)).length ≤ 63 := by
      rw [e, List.length_map, List.length_take]; omega
    refine h p _ hp ⟨ns.take (min 63 ns.length), 0, 0, 9103 + ((DL.cutD (ns.map D.int) none (some 63)).length : Int), 0, by rw [← e] <;> rfl, by omega, by omega, by omega⟩
def sp_law_get : DSp := fun ds cs P _ => ∃ (p : Addr) (most : Int), ds = [.opq (.ref p), .int most] ∧ 0 < most ∧ most < 2 ^ 60 ∧ BagIn p cs ∧ ∀ r cs', 0 ≤ r → r < most → BagStep p cs cs' → P (.int r) cs'
theorem r_law_get {p : Addr} {m : Int} {cs : Cs} {P : DP} {Z : XZ} (m0 : 0 < m) (m1 : m < 2 ^ 60) (hb : BagIn p cs) (h : ∀ r cs', 0 ≤ r → r < m → BagStep p cs cs' → P (.int r) cs') : sp_law_get [.opq (.ref p), .int m] cs P Z := ⟨p, m, rfl, m0, m1, hb, h⟩
theorem sc_law_get : FnScope ["_law_bag_here", "_law_most", "_law_cell", "_law_got", "_law_before"] ["_law_bag_here", "_law_most"] (defScope s_law_get) := ⟨rfl, rfl, rfl, by decide +kernel, rfl, by decide +kernel, by decide +kernel⟩
theorem ok_law_get {P : Program} {w : World} {K : PySem.W.Frag} {mg : Str → Option Value} {base : Heap} (T : Txt K mg base) : FnOk P w K mg base (L2.CX P w) 1 (He.ga K "_law_get") T.fd_law_get ["_law_bag_here", "_law_most"] (spL K 2 sp_law_get) := by
  apply ok_def (k := 0) T.F_law_get sc_law_get
  case hb =>
    intro cdv A outer s H E hr
    exact (dss_cons (ds_if (dt_w (dw_and (dt_lt (d_ixM (d_var 0) d_int) (d_var 1)) (dw_and1 (dt_lt (d_ixM (d_var 0) d_int) (d_callB call_len_seq adq_len rfl T.n_len (by decide +kernel) (da_cons (d_ixM (d_var 0) d_int) da_nil)))))) (dss_cons (ds_set (i := 2) sc_law_get.nd rfl (Or.inl rfl) (d_sub_ix (d_ixM (d_var 0) d_int) (d_ixM (d_var 0) d_int)))
      (dss_cons (ds_setix (d_add (d_ixM (d_var 0) d_int) d_int) (d_var 0) d_int)
      (dss_cons (ds_setix (d_if (dt_ge (d_var 2) (d_pow d_int d_int)) (d_sub (d_var 2) (d_pow d_int d_int)) d_int) (d_var 0) d_int)
      (dss_one (ds_setix (d_mod (d_add (d_add (d_mul (d_ixM (d_var 0) d_int) d_int) (d_mul (d_var 2) d_int)) (d_mul d_int (d_ixM (d_var 0) d_int))) d_int) (d_var 0) d_int))))) dss_nil)
      (dss_cons (ds_if (dt_ge (d_ixM (d_var 0) d_int) (d_var 1)) (dss_cons (ds_set (i := 3) sc_law_get.nd rfl (Or.inl rfl) (d_mod (d_ixM (d_var 0) d_int) (d_var 1)))
      (dss_cons (ds_setix (d_fdiv (d_ixM (d_var 0) d_int) (d_var 1)) (d_var 0) d_int)
      (dss_one (ds_ret (d_var 3))))) dss_nil)
      (dss_cons (ds_setix (d_add (d_ixM (d_var 0) d_int) d_int) (d_var 0) d_int)
      (dss_cons (ds_set (i := 4) sc_law_get.nd rfl (Or.inl rfl) (d_ixM (d_var 0) d_int))
      (dss_cons (ds_setix (d_mod (d_add (d_add (d_add (d_mul (d_var 4) (d_var 4)) (d_mul d_int (d_var 4))) (d_mul d_int (d_ixM (d_var 0) d_int))) d_int) d_int) (d_var 0) d_int)
      (dss_one (ds_ret (d_mod (d_add (d_fdiv (d_ixM (d_var 0) d_int) d_int) (d_mul (d_fdiv (d_var 4) d_int) d_int)) (d_var 1)))))))))
  case hsp =>
    skip
    rintro ds cs Q Z ⟨p, most, rfl, m0, m1, ⟨b, hl, cells, k, rest, seed, cnt, rfl, h0, h1, h2⟩, hh⟩ _
    have h : ∀ r b, 0 ≤ r → r < most → BagOk b → Q (.int r) (put p b cs) := fun r b x1 x2 x3 => hh r _ x1 x2 ⟨⟨b, look_put hl, x3⟩, b, rfl⟩
    show (_ : WS) (finD Q Z) [some _, some _, none, none, none] cs
    have dv := divOk m0 m1
    refine r_key (N := fun ρ' cs' => ∃ (c : Option D) (k1 : Nat) (rest1 seed1 : Int), ρ' = [some (.opq (.ref p)), some (.int most), c, none, none] ∧ look p cs' = some (.lst [.lst (cells.map D.int), .int (k1 : Int), .int rest1, .int seed1, .int cnt]) ∧ 0 ≤ rest1 ∧ 0 ≤ seed1 ∧ seed1 < 2147483629 ∧ ∀ r b, 0 ≤ r → r < most → BagOk b → Q (.int r) (put p b cs')) ?_ (fun nx key => ?_)
    · rintro ρ' cs' ⟨c, k1, rest1, seed1, rfl, hl', a0, a1, a2, hq⟩
      walk_at "go"
      refine ⟨fun hk => ?_, fun hk => ?_⟩
      · walk_at "go"
        exact hq _ _ (Int.emod_nonneg _ (by omega)) (Int.emod_lt_of_pos _ m0) ⟨cells, k1, rest1 / most, seed1, cnt, rfl, Int.ediv_nonneg a0 (by omega), a1, a2⟩
      · have hs : seed1.natAbs < 2 ^ 64 := by omega
        walk_at "go"
        show Q _ (put p _ (put p _ cs'))
        rw [put_put]
        refine hq _ _ (Int.emod_nonneg _ (by omega)) (Int.emod_lt_of_pos _ m0) ⟨cells, k1, rest1, _, cnt + 1, rfl, a0, Int.emod_nonneg _ (by decide), Int.emod_lt_of_pos _ (by decide)⟩
    · walk_at "go"
      refine ⟨fun hk => ?_, fun hk => ?_⟩
      · walk_at "go"
        refine ⟨fun hk2 => ?_, fun hk2 => ?_⟩
        · have hlen : (k : Int) < (cells.length : Int) := by simpa using decT hk2
          have hat : atD (cells.map D.int) (k : Int) = some (.int (cells[k]'(by omega))) := by
            refine atI_nat ?_
            rw [List.getElem?_map, List.getElem?_eq_getElem (by omega)]
            rfl
          walk_at "go"
          refine r_ixL hat ?_
          generalize cells[k]'(by omega) = cell
          walk_at "go"
          refine ⟨fun hk3 => ?_, fun hk3 => ?_⟩
          · have hc := decT hk3
            walk_at "go"
            refine key _ _ ⟨_, k + 1, _, _, rfl, look_put (look_put (look_put hl)), ?_, Int.emod_nonneg _ (by decide), Int.emod_lt_of_pos _ (by decide), fun r b x1 x2 x3 => ?_⟩
            · show (0 : Int) ≤ cell - 10 ^ 18
              have : (10 : Int) ^ 18 ≤ cell := hc
              omega
            · rw [put_put, put_put, put_put]
              exact h r b x1 x2 x3
          · walk_at "go"
            refine key _ _ ⟨_, k + 1, _, _, rfl, look_put (look_put (look_put hl)), Int.le_refl _, Int.emod_nonneg _ (by decide), Int.emod_lt_of_pos _ (by decide), fun r b x1 x2 x3 => ?_⟩
            rw [put_put, put_put, put_put]
            exact h r b x1 x2 x3
        · walk_at "go"
          exact key _ _ ⟨none, k, rest, seed, rfl, hl, h0, h1, h2, h⟩
      · walk_at "go"
        exact key _ _ ⟨none, k, rest, seed, rfl, hl, h0, h1, h2, h⟩
local macro_rules | `(tactic| walk_at "cl") => `(tactic| (first | ((with_reducible apply r_law_get); (walk_at "in"); (walk_at "in"); (walk_at "bg"))))
def sp_law_weight : DSp := fun ds cs P _ => ∃ (p : Addr) (k : Int), ds = [.opq (.ref p), .int k] ∧ BagIn p cs ∧ ∀ w cs', 1 ≤ w → w ≤ 400000 → BagStep p cs cs' → P (.int w) cs'
theorem sc_law_weight : FnScope ["_law_bag_here", "_law_kind"] ["_law_bag_here", "_law_kind"] (defScope s_law_weight) := ⟨rfl, rfl, rfl, by decide +kernel, rfl, by decide +kernel, by decide +kernel⟩
theorem ok_law_weight {P : Program} {w : World} {K : PySem.W.Frag} {mg : Str → Option Value} {base : Heap} (T : Txt K mg base) : FnOk P w K mg base (L2.CX P w) 2 (He.ga K "_law_weight") T.fd_law_weight ["_law_bag_here", "_law_kind"] (spL K 2 sp_law_weight) := by
  apply ok_def (k := 1) T.F_law_weight sc_law_weight
  case hb =>
    intro cdv A outer s H E hr
    exact (dss_cons (ds_if (dt_eq hr.units (d_var 1) d_int) (dss_one (ds_ret (d_add d_int (d_callN (ok_law_get T) (hr.mono (by decide)) rfl T.g_law_get T.F_law_get.kp (b_law_get T) takesD (da_cons (d_var 0) (da_cons d_int da_nil)))))) dss_nil)
      (dss_cons (ds_if (dt_eq hr.units (d_var 1) d_int) (dss_one (ds_ret (d_add d_int (d_callN (ok_law_get T) (hr.mono (by decide)) rfl T.g_law_get T.F_law_get.kp (b_law_get T) takesD (da_cons (d_var 0) (da_cons d_int da_nil)))))) dss_nil)
      (dss_cons (ds_if (dt_eq hr.units (d_var 1) d_int) (dss_one (ds_ret d_int)) dss_nil)
      (dss_one (ds_ret (d_sub_ix (d_lst (da_cons d_int (da_cons d_int (da_cons d_int (da_cons d_int (da_cons d_int da_nil)))))) (d_callN (ok_law_get T) (hr.mono (by decide)) rfl T.g_law_get T.F_law_get.kp (b_law_get T) takesD (da_cons (d_var 0) (da_cons d_int da_nil)))))))))
  case hsp =>
    skip
    rintro ds cs Q Z ⟨p, k, rfl, hb, h⟩ _
    show (_ : WS) (finD Q Z) [some _, some _] cs
    walk_at "go"
    refine ⟨fun _ => ?_, fun _ => ?_⟩
    · walk_at "go"
      refine ⟨p, 5, rfl, by decide, by decide, hb, fun g cs1 g0 g1 st => ?_⟩
      walk_at "go"
      exact h _ _ (by omega) (by omega) st
    walk_at "go"
    refine ⟨fun _ => ?_, fun _ => ?_⟩
    · walk_at "go"
      refine ⟨p, 400000, rfl, by decide, by decide, hb, fun g cs1 g0 g1 st => ?_⟩
      walk_at "go"
      exact h _ _ (by omega) (by omega) st
    walk_at "go"
    refine ⟨fun _ => ?_, fun _ => ?_⟩
    · walk_at "go"
      exact h _ _ (by decide) (by decide) (BagStep.refl hb)
    walk_at "go"
    refine ⟨p, 5, rfl, by decide, by decide, hb, fun g cs1 g0 g1 st => ?_⟩
    have hg : g = 0 ∨ g = 1 ∨ g = 2 ∨ g = 3 ∨ g = 4 := by omega
    rcases hg with rfl | rfl | rfl | rfl | rfl
    all_goals
      walk_at "go"
      exact h _ _ (by decide) (by decide) st
def sp_law_weights : DSp := fun ds cs P _ => ∃ (p : Addr) (m : Int), ds = [.opq (.ref p), .int m] ∧ 1 ≤ m ∧ m ≤ 12 ∧ BagIn p cs ∧ ∀ ws cs', WtOk ws → (ws.length : Int) ≤ m → BagStep p cs cs' → P (.lst (ws.map D.int)) cs'
theorem r_law_weights {p : Addr} {m : Int} {cs : Cs} {P : DP} {Z : XZ} (m0 : 1 ≤ m) (m1 : m ≤ 12) (hb : BagIn p cs) (h : ∀ ws cs', WtOk ws → (ws.length : Int) ≤ m → BagStep p cs cs' → P (.lst (ws.map D.int)) cs') : sp_law_weights [.opq (.ref p), .int m] cs P Z := ⟨p, m, rfl, m0, m1, hb, h⟩
theorem sc_law_weights : FnScope ["_law_bag_here", "_law_most", "_law_many", "_law_kind", "_law_k"] ["_law_bag_here", "_law_most"] (defScope s_law_weights) := ⟨rfl, rfl, rfl, by decide +kernel, rfl, by decide +kernel, by decide +kernel⟩
theorem ok_law_weights {P : Program} {w : World} {K : PySem.W.Frag} {mg : Str → Option Value} {base : Heap} (T : Txt K mg base) : FnOk P w K mg base (L2.CX P w) 3 (He.ga K "_law_weights") T.fd_law_weights ["_law_bag_here", "_law_most"] (spL K 2 sp_law_weights) := by
  apply ok_def (k := 2) T.F_law_weights sc_law_weights
  case hb =>
    intro cdv A outer s H E hr
    exact (dss_cons (ds_asg (d_tup (da_cons (d_add d_int (d_callN (ok_law_get T) (hr.mono (by decide)) rfl T.g_law_get T.F_law_get.kp (b_law_get T) takesD (da_cons (d_var 0) (da_cons (d_var 1) da_nil)))) (da_cons (d_callN (ok_law_get T) (hr.mono (by decide)) rfl T.g_law_get T.F_law_get.kp (b_law_get T) takesD (da_cons (d_var 0) (da_cons d_int da_nil))) da_nil))) (dg_tup (n := 2) rfl (dgs_cons (dg_name (i := 2) sc_law_weights.nd rfl (Or.inl rfl)) (dgs_cons (dg_name (i := 3) sc_law_weights.nd rfl (Or.inr rfl)) dgs_nil))))
      (dss_one (ds_ret (d_lc rfl sc_law_weights.nd (di_range1 rfl T.n_range (da_cons (d_var 2) da_nil)) (blkOk_by (own := [("_law_k", 4)]) (N := ["_law_bag_here", "_law_most", "_law_many", "_law_kind", "_law_k"]) (sc := defScope s_law_weights) (by decide +kernel)) (gok_name (by decide)) (fun _ _ _ _ _ => (pg_name (i := 4) sc_law_weights.nd rfl (Or.inl rfl))) (fun _ _ _ _ _ => dts_nil) (fun _ _ _ _ _ => (d_callN (ok_law_weight T) (hr.mono (by decide)) rfl T.g_law_weight T.F_law_weight.kp (b_law_weight T) takes0 (da_cons (d_var 0) (da_cons (d_if (dt_lt (d_var 3) d_int) (d_var 3) (d_callN (ok_law_get T) (hr.mono (by decide)) rfl T.g_law_get T.F_law_get.kp (b_law_get T) takes0 (da_cons (d_var 0) (da_cons d_int da_nil)))) da_nil))))))))
  case hsp =>
    skip
    rintro ds cs Q Z ⟨p, m, rfl, m0, m1, hb, h⟩ _
    show (_ : WS) (finD Q Z) [some _, some _, none, none, none] cs
    walk_at "go"
    refine ⟨p, m, rfl, by omega, by omega, hb, fun g cs1 g0 g1 st => ?_⟩
    walk_at "go"
    refine ⟨p, 5, rfl, by decide, by decide, st.bag, fun k cs2 k0 k1 st2 => ?_⟩
    walk_at "go"
    refine ⟨⟨by omega, by omega⟩, by rw [rng_len]; omega, ?_⟩
    refine r_comp0 (fun i acc cs' => ∃ ws : List Int, acc = ws.map D.int ∧ ws.length = i ∧ (∀ w ∈ ws, 1 ≤ w ∧ w ≤ 400000) ∧ BagStep p cs cs') ⟨[], rfl, rfl, fun _ h => (nomatch h), st.trans st2⟩ ?_ ?_
    · rintro i d acc cs' N hd ⟨ws, rfl, hl, hr, st3⟩ hN
      have fin : ∀ w cs'', 1 ≤ w → w ≤ 400000 → BagStep p cs' cs'' → N (ws.map D.int ++ [.int w]) cs'' := fun w cs'' w0 w1 st4 =>
        hN _ _ ⟨ws ++ [w], by rw [List.map_append]; rfl, by rw [List.length_append, hl]; rfl, fun x hx => by
          rcases List.mem_append.mp hx with hx | hx
          · exact hr x hx
          · rw [List.mem_singleton.mp hx]; exact ⟨w0, w1⟩, st3.trans st4⟩
      walk_at "go"
      refine ⟨fun hk => ?_, fun hk => ?_⟩
      · walk_at "go"
        exact ⟨p, k, rfl, st3.bag, fun w cs'' w0 w1 st4 => fin w cs'' w0 w1 st4⟩
      · walk_at "go"
        refine ⟨p, 4, rfl, by decide, by decide, st3.bag, fun g2 cs4 _ _ st4 => ?_⟩
        walk_at "go"
        exact ⟨p, g2, rfl, st4.bag, fun w cs'' w0 w1 st5 => fin w cs'' w0 w1 (st4.trans st5)⟩
    · rintro acc cs' ⟨ws, rfl, hl, hr, st3⟩
      rw [rng_len] at hl
      exact h ws cs' ⟨by omega, by omega, hr⟩ (by omega) st3
local macro_rules | `(tactic| walk_at "cl") => `(tactic| (first | ((with_reducible apply r_law_weights); (walk_at "in"); (walk_at "in"); (walk_at "bg"))))
def sp_law_gcd : DSp := fun ds cs P _ => ∃ a b : Nat, ds = [.int (a : Int), .int (b : Int)] ∧ P (.int (Nat.gcd a b : Int)) cs
theorem sc_law_gcd : FnScope ["_law_one", "_law_other"] ["_law_one", "_law_other"] (defScope s_law_gcd) := ⟨rfl, rfl, rfl, by decide +kernel, rfl, by decide +kernel, by decide +kernel⟩
theorem ok_law_gcd {P : Program} {w : World} {K : PySem.W.Frag} {mg : Str → Option Value} {base : Heap} (T : Txt K mg base) : FnOk P w K mg base (L2.CX P w) 1 (He.ga K "_law_gcd") T.fd_law_gcd ["_law_one", "_law_other"] (spL K 2 sp_law_gcd) := by
  apply ok_def (k := 0) T.F_law_gcd sc_law_gcd
  case hb =>
    intro cdv A outer s H E hr
    exact (dss_cons (ds_while passD (dt_gt (d_var 1) d_int) (dss_one (ds_par (i := 0) (j := 1) rfl sc_law_gcd.nd rfl rfl (by decide) rfl rfl (da_cons (d_var 1) (da_cons (d_mod (d_var 0) (d_var 1)) da_nil)))))
      (dss_one (ds_ret (d_var 0))))
  case hsp =>
    skip
    rintro ds cs Q Z ⟨a, b, rfl, h⟩ _
    show (_ : WS) (finD Q Z) [some _, some _] cs
    walk_at "go"
    refine r_while (fun m ρ cs' => ∃ a' b' : Nat, ρ = [some (.int (a' : Int)), some (.int (b' : Int))] ∧ m = b' ∧ cs' = cs ∧ Nat.gcd a' b' = Nat.gcd a b) ⟨b, a, b, rfl, rfl, rfl, rfl⟩ ?_
    rintro m ρ cs' N ⟨a', b', rfl, hm, rfl, hg⟩ hN
    walk_at "go"
    refine ⟨fun hk => ?_, fun hk => ?_⟩
    · have hb : (b' : Int) ≠ 0 := by have := decT hk; omega
      have hb0 : (0 : Int) < b' := by omega
      walk_at "go"
      refine hN (a' % b') _ _ (by rw [hm]; exact Nat.mod_lt _ (by omega)) ⟨b', a' % b', rfl, rfl, rfl, ?_⟩
      rw [← hg, Nat.gcd_comm b', ← Nat.gcd_rec, Nat.gcd_comm]
    · have hb : (b' : Int) = 0 := by have := decF hk; omega
      have hb0 : b' = 0 := by omega
      rw [hb0]
      walk_at "go"
      rw [← hg, hb0, Nat.gcd_zero_right] at h
      exact h
def sp_law_part : DSp := fun ds cs P _ => ∃ a b : Int, ds = [.int a, .int b] ∧ b ≠ 0 ∧ b.natAbs < 2 ^ 9000 ∧ P (dR (Rat.divInt a b)) cs
theorem r_law_part {a b : Int} {cs : Cs} {P : DP} {Z : XZ} (b0 : b ≠ 0) (hb : b.natAbs < 2 ^ 9000) (h : P (dR (Rat.divInt a b)) cs) : sp_law_part [.int a, .int b] cs P Z := ⟨a, b, rfl, b0, hb, h⟩
theorem sc_law_part : FnScope ["_law_above_here", "_law_below", "_law_by"] ["_law_above_here", "_law_below"] (defScope s_law_part) := ⟨rfl, rfl, rfl, by decide +kernel, rfl, by decide +kernel, by decide +kernel⟩
theorem ok_law_part {P : Program} {w : World} {K : PySem.W.Frag} {mg : Str → Option Value} {base : Heap} (T : Txt K mg base) : FnOk P w K mg base (L2.CX P w) 2 (He.ga K "_law_part") T.fd_law_part ["_law_above_here", "_law_below"] (spL K 2 sp_law_part) := by
  apply ok_def (k := 1) T.F_law_part sc_law_part
  case hb =>
    intro cdv A outer s H E hr
    exact (dss_cons (ds_if (dt_lt (d_var 1) d_int) (dss_one (ds_par (i := 0) (j := 1) rfl sc_law_part.nd rfl rfl (by decide) rfl rfl (da_cons (d_sub d_int (d_var 0)) (da_cons (d_sub d_int (d_var 1)) da_nil)))) dss_nil)
      (dss_cons (ds_set (i := 2) sc_law_part.nd rfl (Or.inl rfl) (d_callN (ok_law_gcd T) (hr.mono (by decide)) rfl T.g_law_gcd T.F_law_gcd.kp (b_law_gcd T) takesD (da_cons (d_callB call_abs adq_abs rfl T.n_abs (by decide +kernel) (da_cons (d_var 0) da_nil)) (da_cons (d_var 1) da_nil))))
      (dss_one (ds_ret (d_tup (da_cons (d_fdiv (d_var 0) (d_var 2)) (da_cons (d_fdiv (d_var 1) (d_var 2)) da_nil)))))))
  case hsp =>
    skip
    rintro ds cs Q Z ⟨a, b, rfl, hb, hs, h⟩ _
    show (_ : WS) (finD Q Z) [some _, some _, none] cs
    refine r_key (N := fun ρ' cs' => ∃ a' b' : Int, ρ' = [some (.int a'), some (.int b'), none] ∧ cs' = cs ∧ 0 < b' ∧ b'.natAbs < 2 ^ 9000 ∧ Rat.divInt a' b' = Rat.divInt a b) ?_ (fun nx key => ?_)
    · rintro ρ' cs' ⟨a', b', rfl, rfl, hp, hz, he⟩
      walk_at "go"
      rw [abs_nat]
      have hn : b' = (b'.natAbs : Int) := by omega
      refine ⟨a'.natAbs, b'.natAbs, by rw [← hn], ?_⟩
      have g := gcd_ok (a := a'.natAbs) (b := b'.natAbs) (by omega) hz
      obtain ⟨e1, e2⟩ := part_pos a' b' hp
      walk_at "go"
      show Q (.tup [.int (a' / _), .int (b' / _)]) cs'
      rw [e1, e2, he]
      exact h
    · walk_at "go"
      refine ⟨fun hk2 => ?_, fun hk2 => ?_⟩
      · have hlt := decT hk2
        walk_at "go"
        exact key _ _ ⟨0 - a, 0 - b, rfl, rfl, by omega, by rw [Int.zero_sub, Int.natAbs_neg]; exact hs, by rw [Int.zero_sub, Int.zero_sub]; exact part_neg a b⟩
      · have hlt := decF hk2
        walk_at "go"
        exact key _ _ ⟨a, b, rfl, rfl, by omega, hs, rfl⟩
local macro_rules | `(tactic| walk_at "cl") => `(tactic| (first | ((with_reducible apply r_law_part); (walk_at "in"); (walk_at "p9"))))
def sp_law_far : DSp := fun ds cs P _ => ∃ (p : Addr) (n : Nat), ds = [.opq (.ref p), .int (n : Int)] ∧ n ≤ 20 ∧ BagIn p cs ∧ ∀ r cs', 0 ≤ r → r < 1000 ^ n → BagStep p cs cs' → P (.int r) cs'
theorem sc_law_far : FnScope ["_law_bag_here", "_law_steps", "_law_found", "_law_step"] ["_law_bag_here", "_law_steps"] (defScope s_law_far) := ⟨rfl, rfl, rfl, by decide +kernel, rfl, by decide +kernel, by decide +kernel⟩
theorem ok_law_far {P : Program} {w : World} {K : PySem.W.Frag} {mg : Str → Option Value} {base : Heap} (T : Txt K mg base) : FnOk P w K mg base (L2.CX P w) 2 (He.ga K "_law_far") T.fd_law_far ["_law_bag_here", "_law_steps"] (spL K 2 sp_law_far) := by
  apply ok_def (k := 1) T.F_law_far sc_law_far
  case hb =>
    intro cdv A outer s H E hr
    exact (dss_cons (ds_set (i := 2) sc_law_far.nd rfl (Or.inl rfl) d_int)
      (dss_cons (ds_for passD rfl (di_range1 rfl T.n_range (da_cons (d_var 1) da_nil)) (dg_name (i := 3) sc_law_far.nd rfl (Or.inl rfl)) (dss_one (ds_set (i := 2) sc_law_far.nd rfl (Or.inl rfl) (d_add (d_mul (d_var 2) d_int) (d_callN (ok_law_get T) (hr.mono (by decide)) rfl T.g_law_get T.F_law_get.kp (b_law_get T) takesD (da_cons (d_var 0) (da_cons d_int da_nil)))))))
      (dss_one (ds_ret (d_var 2)))))
  case hsp =>
    skip
    rintro ds cs Q Z ⟨p, n, rfl, hn, hb, h⟩ _
    show (_ : WS) (finD Q Z) [some _, some _, none, none] cs
    walk_at "go"
    refine ⟨⟨by omega, by omega⟩, ?_⟩
    refine r_loop0 (fun i ρ cs' => ∃ (r : Int) (c : Option D), ρ = [some (.opq (.ref p)), some (.int (n : Int)), some (.int r), c] ∧ 0 ≤ r ∧ r < 1000 ^ i ∧ BagStep p cs cs') ⟨0, none, rfl, by decide, by decide, BagStep.refl hb⟩ ?_ ?_
    · rintro i d ρ cs' N hd ⟨r, c, rfl, r0, r1, st⟩ hN
      obtain ⟨rfl, hi⟩ := rng_get hd
      walk_at "go"
      refine ⟨p, 1000, rfl, by decide, by decide, st.bag, fun g cs2 g0 g1 st2 => ?_⟩
      walk_at "go"
      refine hN _ _ ⟨_, _, rfl, by omega, ?_, st.trans st2⟩
      rw [Int.pow_succ]; omega
    · rintro ρ cs' ⟨r, c, rfl, r0, r1, st⟩
      walk_at "go"
      rw [rng_len, Int.toNat_natCast] at r1
      exact h _ _ r0 r1 st
def sp_law_number : DSp := fun ds cs P _ => ∃ (p : Addr), ds = [.opq (.ref p)] ∧ BagIn p cs ∧ ∀ (r : Int) cs', r.natAbs < 2 ^ 200 → BagStep p cs cs' → P (.int r) cs'
theorem r_law_number {p : Addr} {cs : Cs} {P : DP} {Z : XZ} (hb : BagIn p cs) (h : ∀ (r : Int) cs', r.natAbs < 2 ^ 200 → BagStep p cs cs' → P (.int r) cs') : sp_law_number [.opq (.ref p)] cs P Z := ⟨p, rfl, hb, h⟩
theorem sc_law_number : FnScope ["_law_bag_here", "_law_kind"] ["_law_bag_here"] (defScope s_law_number) := ⟨rfl, rfl, rfl, by decide +kernel, rfl, by decide +kernel, by decide +kernel⟩
theorem ok_law_number {P : Program} {w : World} {K : PySem.W.Frag} {mg : Str → Option Value} {base : Heap} (T : Txt K mg base) : FnOk P w K mg base (L2.CX P w) 3 (He.ga K "_law_number") T.fd_law_number ["_law_bag_here"] (spL K 1 sp_law_number) := by
  apply ok_def (k := 2) T.F_law_number sc_law_number
  case hb =>
    intro cdv A outer s H E hr
    exact (dss_cons (ds_set (i := 1) sc_law_number.nd rfl (Or.inl rfl) (d_callN (ok_law_get T) (hr.mono (by decide)) rfl T.g_law_get T.F_law_get.kp (b_law_get T) takesD (da_cons (d_var 0) (da_cons d_int da_nil))))
      (dss_cons (ds_if (dt_lt (d_var 1) d_int) (dss_one (ds_ret (d_sub (d_callN (ok_law_get T) (hr.mono (by decide)) rfl T.g_law_get T.F_law_get.kp (b_law_get T) takesD (da_cons (d_var 0) (da_cons d_int da_nil))) d_int))) dss_nil)
      (dss_cons (ds_if (dt_eq hr.units (d_var 1) d_int) (dss_one (ds_ret (d_sub (d_callN (ok_law_get T) (hr.mono (by decide)) rfl T.g_law_get T.F_law_get.kp (b_law_get T) takesD (da_cons (d_var 0) (da_cons d_int da_nil))) d_int))) dss_nil)
      (dss_one (ds_ret (d_mul (d_add (d_callN (ok_law_far T) (hr.mono (by decide)) rfl T.g_law_far T.F_law_far.kp (b_law_far T) takesD (da_cons (d_var 0) (da_cons (d_sub_ix (d_lst (da_cons d_int (da_cons d_int da_nil))) (d_sub (d_var 1) d_int)) da_nil))) d_int) (d_sub d_int (d_mul d_int (d_callN (ok_law_get T) (hr.mono (by decide)) rfl T.g_law_get T.F_law_get.kp (b_law_get T) takesD (da_cons (d_var 0) (da_cons d_int da_nil)))))))))))
  case hsp =>
    skip
    rintro ds cs Q Z ⟨p, rfl, hb, h⟩ _
    show (_ : WS) (finD Q Z) [some _, none] cs
    walk_at "go"
    refine ⟨p, 5, rfl, by decide, by decide, hb, fun k cs1 k0 k1 st1 => ?_⟩
    walk_at "go"
    refine ⟨fun hk => ?_, fun hk => ?_⟩
    · walk_at "go"
      refine ⟨p, 9, rfl, by decide, by decide, st1.bag, fun g cs2 g0 g1 st2 => ?_⟩
      walk_at "go"
      exact h _ _ (by omega) (st1.trans st2)
    · walk_at "go"
      refine ⟨fun hk2 => ?_, fun hk2 => ?_⟩
      · walk_at "go"
        refine ⟨p, 2001, rfl, by decide, by decide, st1.bag, fun g cs2 g0 g1 st2 => ?_⟩
        walk_at "go"
        exact h _ _ (by omega) (st1.trans st2)
      · have a1 := decF hk
        have a2 := decF hk2
        have key : ∃ n : Nat, n ≤ 20 ∧ atD [.int 3, .int 20] (k - 3) = some (.int (n : Int)) := by
          rcases (show k = 3 ∨ k = 4 by omega) with e | e
          · exact ⟨3, by decide, by rw [e] <;> rfl⟩
          · exact ⟨20, by decide, by rw [e] <;> rfl⟩
        obtain ⟨n, hn, e⟩ := key
        walk_at "go"
        refine r_ixL e ?_
        walk_at "go"
        refine ⟨p, n, rfl, by omega, st1.bag, fun r cs2 r0 r1 st2 => ?_⟩
        have r2 : r < 1000 ^ 20 := Int.lt_of_lt_of_le r1 (p1000 hn)
        walk_at "go"
        refine ⟨p, 2, rfl, by decide, by decide, st2.bag, fun g cs3 g0 g1 st3 => ?_⟩
        walk_at "go"
        refine h _ _ ?_ ((st1.trans st2).trans st3)
        rcases (show g = 0 ∨ g = 1 by omega) with e | e
        · rw [e]; omega
        · rw [e]; omega
local macro_rules | `(tactic| walk_at "cl") => `(tactic| (first | ((with_reducible apply r_law_number); (walk_at "bg"))))
def sp_law_some_part : DSp := fun ds cs P _ => ∃ (p : Addr), ds = [.opq (.ref p)] ∧ BagIn p cs ∧ ∀ (r : Rat) cs', Sz 201 r → BagStep p cs cs' → P (dR r) cs'
theorem r_law_some_part {p : Addr} {cs : Cs} {P : DP} {Z : XZ} (hb : BagIn p cs) (h : ∀ (r : Rat) cs', Sz 201 r → BagStep p cs cs' → P (dR r) cs') : sp_law_some_part [.opq (.ref p)] cs P Z := ⟨p, rfl, hb, h⟩
theorem sc_law_some_part : FnScope ["_law_bag_here", "_law_below"] ["_law_bag_here"] (defScope s_law_some_part) := ⟨rfl, rfl, rfl, by decide +kernel, rfl, by decide +kernel, by decide +kernel⟩
theorem ok_law_some_part {P : Program} {w : World} {K : PySem.W.Frag} {mg : Str → Option Value} {base : Heap} (T : Txt K mg base) : FnOk P w K mg base (L2.CX P w) 4 (He.ga K "_law_some_part") T.fd_law_some_part ["_law_bag_here"] (spL K 1 sp_law_some_part) := by
  apply ok_def (k := 3) T.F_law_some_part sc_law_some_part
  case hb =>
    intro cdv A outer s H E hr
    exact (dss_cons (ds_set (i := 1) sc_law_some_part.nd rfl (Or.inl rfl) (d_add (d_callB call_abs adq_abs rfl T.n_abs (by decide +kernel) (da_cons (d_callN (ok_law_number T) (hr.mono (by decide)) rfl T.g_law_number T.F_law_number.kp (b_law_number T) takesD (da_cons (d_var 0) da_nil)) da_nil)) d_int))
      (dss_one (ds_ret (d_callN (ok_law_part T) (hr.mono (by decide)) rfl T.g_law_part T.F_law_part.kp (b_law_part T) takesD (da_cons (d_callN (ok_law_number T) (hr.mono (by decide)) rfl T.g_law_number T.F_law_number.kp (b_law_number T) takesD (da_cons (d_var 0) da_nil)) (da_cons (d_if (dt_gt (d_callN (ok_law_get T) (hr.mono (by decide)) rfl T.g_law_get T.F_law_get.kp (b_law_get T) takesD (da_cons (d_var 0) (da_cons d_int da_nil))) d_int) (d_var 1) d_int) da_nil))))))
  case hsp =>
    skip
    rintro ds cs Q Z ⟨p, rfl, hb, h⟩ _
    show (_ : WS) (finD Q Z) [some _, none] cs
    walk_at "go"
    refine ⟨p, rfl, hb, fun a cs1 a1 st1 => ?_⟩
    walk_at "go"
    refine ⟨p, rfl, st1.bag, fun b cs2 b1 st2 => ?_⟩
    walk_at "go"
    refine ⟨p, 3, rfl, by decide, by decide, st2.bag, fun g cs3 g0 g1 st3 => ?_⟩
    walk_at "go"
    have st := (st1.trans st2).trans st3
    have big : ∀ c : Int, 0 < c → c < 2 ^ 201 → b.natAbs < 2 ^ 201 ∧ c.natAbs < 2 ^ 201 := fun c h1 h2 => ⟨by omega, by omega⟩
    have fin : ∀ c : Int, 0 < c → c < 2 ^ 201 → sp_law_part [.int b, .int c] cs3 Q (fun x cs1 => Z x cs1) := fun c h1 h2 => by
      obtain ⟨e1, e2⟩ := big c h1 h2
      exact ⟨b, c, rfl, by omega, Nat.lt_of_lt_of_le e2 (Nat.pow_le_pow_right (by decide) (by decide)), h _ _ (Sz.divInt (n := 201) (m := 201) (by omega) e1 e2 (Nat.le_refl _)) st⟩
    refine ⟨fun hk => ?_, fun hk => ?_⟩
    · walk_at "go"
      exact fin _ (by split <;> omega) (by split <;> omega)
    · walk_at "go"
      exact fin 1 (by decide) (by decide)
local macro_rules | `(tactic| walk_at "cl") => `(tactic| (first | ((with_reducible apply r_law_some_part); (walk_at "bg"))))
def sp_law_above : DSp := fun ds cs P _ => ∃ (p : Addr), ds = [.opq (.ref p)] ∧ BagIn p cs ∧ ∀ (r : Rat) cs', Sz 202 r → 0 < r → BagStep p cs cs' → P (dR r) cs'
theorem r_law_above {p : Addr} {cs : Cs} {P : DP} {Z : XZ} (hb : BagIn p cs) (h : ∀ (r : Rat) cs', Sz 202 r → 0 < r → BagStep p cs cs' → P (dR r) cs') : sp_law_above [.opq (.ref p)] cs P Z := ⟨p, rfl, hb, h⟩
theorem sc_law_above : FnScope ["_law_bag_here", "_law_one"] ["_law_bag_here"] (defScope s_law_above) := ⟨rfl, rfl, rfl, by decide +kernel, rfl, by decide +kernel, by decide +kernel⟩
theorem ok_law_above {P : Program} {w : World} {K : PySem.W.Frag} {mg : Str → Option Value} {base : Heap} (T : Txt K mg base) : FnOk P w K mg base (L2.CX P w) 5 (He.ga K "_law_above") T.fd_law_above ["_law_bag_here"] (spL K 1 sp_law_above) := by
  apply ok_def (k := 4) T.F_law_above sc_law_above
  case hb =>
    intro cdv A outer s H E hr
    exact (dss_cons (ds_set (i := 1) sc_law_above.nd rfl (Or.inl rfl) (d_callN (ok_law_some_part T) (hr.mono (by decide)) rfl T.g_law_some_part T.F_law_some_part.kp (b_law_some_part T) takesD (da_cons (d_var 0) da_nil)))
      (dss_one (ds_ret (d_callN (ok_law_part T) (hr.mono (by decide)) rfl T.g_law_part T.F_law_part.kp (b_law_part T) takesD (da_cons (d_add (d_callB call_abs adq_abs rfl T.n_abs (by decide +kernel) (da_cons (d_sub_ix (d_var 1) d_int) da_nil)) d_int) (da_cons (d_sub_ix (d_var 1) d_int) da_nil))))))
  case hsp =>
    skip
    rintro ds cs Q Z ⟨p, rfl, hb, h⟩ _
    show (_ : WS) (finD Q Z) [some _, none] cs
    walk_at "go"
    refine ⟨p, rfl, hb, fun r cs1 hr st1 => ?_⟩
    walk_at "go"
    rw [abs_nat]
    have hd := den_pos r
    have s1 : ((r.num.natAbs : Int) + 1).natAbs < 2 ^ 202 := by
      have := hr.1
      have e : (2 : Nat) ^ 202 = 2 ^ 201 * 2 := rfl
      omega
    have s2 : (r.den : Int).natAbs < 2 ^ 202 := by
      have := hr.2
      have e : (2 : Nat) ^ 202 = 2 ^ 201 * 2 := rfl
      omega
    refine ⟨_, _, rfl, by omega, Nat.lt_of_lt_of_le s2 (Nat.pow_le_pow_right (by decide) (by decide)), ?_⟩
    refine h _ _ (Sz.divInt (n := 202) (by omega) s1 s2 (Nat.le_refl _)) ?_ st1
    refine Rat.not_le.mp fun q => ?_
    have q2 : 0 ≤ Rat.divInt ((r.num.natAbs : Int) + 1) (r.den : Int) := Rat.divInt_nonneg (by omega) (by omega)
    have q3 := Rat.le_antisymm q q2
    rw [Rat.divInt_ofNat, Rat.mkRat_eq_zero r.den_nz] at q3
    omega
local macro_rules | `(tactic| walk_at "cl") => `(tactic| (first | ((with_reducible apply r_law_above); (walk_at "bg"))))
def sp_law_plain_box : DSp := fun ds cs P _ => ∃ (p : Addr), ds = [.opq (.ref p)] ∧ BagIn p cs ∧ ∀ (b : Bx) cs', b.Pos → b.Sz 202 → b.l = 0 → b.t = 0 → BagStep p cs cs' → P b.d cs'
theorem r_law_plain_box {p : Addr} {cs : Cs} {P : DP} {Z : XZ} (hb : BagIn p cs) (h : ∀ (b : Bx) cs', b.Pos → b.Sz 202 → b.l = 0 → b.t = 0 → BagStep p cs cs' → P b.d cs') : sp_law_plain_box [.opq (.ref p)] cs P Z := ⟨p, rfl, hb, h⟩
theorem sc_law_plain_box : FnScope ["_law_bag_here", "_law_wide", "_law_high"] ["_law_bag_here"] (defScope s_law_plain_box) := ⟨rfl, rfl, rfl, by decide +kernel, rfl, by decide +kernel, by decide +kernel⟩
theorem ok_law_plain_box {P : Program} {w : World} {K : PySem.W.Frag} {mg : Str → Option Value} {base : Heap} (T : Txt K mg base) : FnOk P w K mg base (L2.CX P w) 6 (He.ga K "_law_plain_box") T.fd_law_plain_box ["_law_bag_here"] (spL K 1 sp_law_plain_box) := by
  apply ok_def (k := 5) T.F_law_plain_box sc_law_plain_box
  case hb =>
    intro cdv A outer s H E hr
    exact (dss_cons (ds_par (i := 1) (j := 2) rfl sc_law_plain_box.nd rfl rfl (by decide) rfl rfl (da_cons (d_callN (ok_law_above T) (hr.mono (by decide)) rfl T.g_law_above T.F_law_above.kp (b_law_above T) takesD (da_cons (d_var 0) da_nil)) (da_cons (d_callN (ok_law_above T) (hr.mono (by decide)) rfl T.g_law_above T.F_law_above.kp (b_law_above T) takesD (da_cons (d_var 0) da_nil)) da_nil)))
      (dss_cons (ds_if (dt_gt (d_callN (ok_law_get T) (hr.mono (by decide)) rfl T.g_law_get T.F_law_get.kp (b_law_get T) takesD (da_cons (d_var 0) (da_cons d_int da_nil))) d_int) (dss_one (ds_par (i := 1) (j := 2) rfl sc_law_plain_box.nd rfl rfl (by decide) rfl rfl (da_cons (d_tup (da_cons (d_add d_int (d_callN (ok_law_get T) (hr.mono (by decide)) rfl T.g_law_get T.F_law_get.kp (b_law_get T) takesD (da_cons (d_var 0) (da_cons d_int da_nil)))) (da_cons d_int da_nil))) (da_cons (d_tup (da_cons (d_add d_int (d_callN (ok_law_get T) (hr.mono (by decide)) rfl T.g_law_get T.F_law_get.kp (b_law_get T) takesD (da_cons (d_var 0) (da_cons d_int da_nil)))) (da_cons d_int da_nil))) da_nil)))) dss_nil)
      (dss_one (ds_ret (d_tup (da_cons (d_tup (da_cons d_int (da_cons d_int da_nil))) (da_cons (d_tup (da_cons d_int (da_cons d_int da_nil))) (da_cons (d_var 1) (da_cons (d_var 2) da_nil)))))))))
  case hsp =>
    skip
    rintro ds cs Q Z ⟨p, rfl, hb, h⟩ _
    show (_ : WS) (finD Q Z) [some _, none, none] cs
    walk_at "GO"
    intro wd ca sw pw st1
    walk_at "GO"
    intro hg cb sh ph st2
    walk_at "GO"
    intro g cc g0 g1 st3
    walk_at "GO"
    refine ⟨fun hk => ?_, fun hk => ?_⟩
    · walk_at "GO"
      intro a cd a0 a1 st4
      walk_at "GO"
      intro b ce b0 b1 st5
      walk_at "GO"
      exact h ⟨0, 0, (1 + a : Int), (1 + b : Int)⟩ _ ⟨ofInt_pos (by omega), ofInt_pos (by omega)⟩ ⟨Sz.ofInt (n := 0) (by decide) (by decide), Sz.ofInt (n := 0) (by decide) (by decide), Sz.ofInt (by omega) (by decide), Sz.ofInt (by omega) (by decide)⟩ rfl rfl ((((st1.trans st2).trans st3).trans st4).trans st5)
    · walk_at "GO"
      exact h ⟨0, 0, wd, hg⟩ _ ⟨pw, ph⟩ ⟨Sz.ofInt (n := 0) (by decide) (by decide), Sz.ofInt (n := 0) (by decide) (by decide), sw, sh⟩ rfl rfl ((st1.trans st2).trans st3)
local macro_rules | `(tactic| walk_at "cl") => `(tactic| (first | ((with_reducible apply r_law_plain_box); (walk_at "bg"))))
def sp_law_pick : DSp := fun ds cs P _ => ∃ (p : Addr) (xs : List D), (ds = [.opq (.ref p), .lst xs] ∨ ds = [.opq (.ref p), .tup xs]) ∧ 0 < xs.length ∧ xs.length < 100000 ∧ BagIn p cs ∧ ∀ x cs', x ∈ xs → BagStep p cs cs' → P x cs'
theorem r_law_pick {p : Addr} {xs : List D} {cs : Cs} {P : DP} {Z : XZ} (h0 : 0 < xs.length) (h1 : xs.length < 100000) (hb : BagIn p cs) (h : ∀ x cs', x ∈ xs → BagStep p cs cs' → P x cs') : sp_law_pick [.opq (.ref p), .lst xs] cs P Z := ⟨p, xs, .inl rfl, h0, h1, hb, h⟩
theorem sc_law_pick : FnScope ["_law_bag_here", "_law_some"] ["_law_bag_here", "_law_some"] (defScope s_law_pick) := ⟨rfl, rfl, rfl, by decide +kernel, rfl, by decide +kernel, by decide +kernel⟩
theorem ok_law_pick {P : Program} {w : World} {K : PySem.W.Frag} {mg : Str → Option Value} {base : Heap} (T : Txt K mg base) : FnOk P w K mg base (L2.CX P w) 2 (He.ga K "_law_pick") T.fd_law_pick ["_law_bag_here", "_law_some"] (spL K 2 sp_law_pick) := by
  apply ok_def (k := 1) T.F_law_pick sc_law_pick
  case hb =>
    intro cdv A outer s H E hr
    exact (dss_one (ds_ret (d_sub_ix (d_var 1) (d_callN (ok_law_get T) (hr.mono (by decide)) rfl T.g_law_get T.F_law_get.kp (b_law_get T) takesD (da_cons (d_var 0) (da_cons (d_callB call_len_seq adq_len rfl T.n_len (by decide +kernel) (da_cons (d_var 1) da_nil)) da_nil))))))
  case hsp =>
    skip
    rintro ds cs Q Z ⟨p, xs, hds, h0, h1, hb, h⟩ _
    rcases hds with rfl | rfl
    all_goals
      show (_ : WS) (finD Q Z) [some _, some _] cs
      walk_at "go"
      refine ⟨p, (xs.length : Int), rfl, by omega, by omega, hb, fun r cs1 r0 r1 st => ?_⟩
      obtain ⟨x, hx, e⟩ := atD_mem r0 r1
      first
        | exact r_ixL e (h _ _ hx st)
        | exact r_ixT e (h _ _ hx st)
local macro_rules | `(tactic| walk_at "cl") => `(tactic| (first | ((with_reducible apply r_law_pick); (walk_at "in"); (walk_at "in"); (walk_at "bg"))))
def sp_law_names : DSp := fun ds cs P _ => ∃ (p : Addr) (m : Nat), ds = [.opq (.ref p), .int (m : Int)] ∧ m ≤ 26 ∧ BagIn p cs ∧ ∀ ns cs', NamesOk ns m → BagStep p cs cs' → P (.lst (ns.map D.str)) cs'
theorem r_law_names {p : Addr} {m : Nat} {cs : Cs} {P : DP} {Z : XZ} (hm : m ≤ 26) (hb : BagIn p cs) (h : ∀ ns cs', NamesOk ns m → BagStep p cs cs' → P (.lst (ns.map D.str)) cs') : sp_law_names [.opq (.ref p), .int (m : Int)] cs P Z := ⟨p, m, rfl, hm, hb, h⟩
theorem sc_law_names : FnScope ["_law_bag_here", "_law_many", "_law_letters", "_law_k", "_law_size", "_law_place", "_law_same_here", "_law_unlike", "_law_begin", "_law_step", "_law_found", "_law_row", "_law_at"] ["_law_bag_here", "_law_many"] (defScope s_law_names) := ⟨rfl, rfl, rfl, by decide +kernel, rfl, by decide +kernel, by decide +kernel⟩
theorem ok_law_names {P : Program} {w : World} {K : PySem.W.Frag} {mg : Str → Option Value} {base : Heap} (T : Txt K mg base) : FnOk P w K mg base (L2.CX P w) 3 (He.ga K "_law_names") T.fd_law_names ["_law_bag_here", "_law_many"] (spL K 2 sp_law_names) := by
  apply ok_def (k := 2) T.F_law_names sc_law_names
  case hb =>
    intro cdv A outer s H E hr
    exact (dss_cons (ds_set (i := 2) sc_law_names.nd rfl (Or.inr rfl) d_str)
      (dss_cons (ds_if (dt_gt (d_var 1) d_int) dss_never dss_nil)
      (dss_cons (ds_set (i := 4) sc_law_names.nd rfl (Or.inl rfl) (d_add d_int (d_callN (ok_law_get T) (hr.mono (by decide)) rfl T.g_law_get T.F_law_get.kp (b_law_get T) takesD (da_cons (d_var 0) (da_cons d_int da_nil)))))
      (dss_cons (ds_set (i := 5) sc_law_names.nd rfl (Or.inl rfl) (d_callN (ok_law_get T) (hr.mono (by decide)) rfl T.g_law_get T.F_law_get.kp (b_law_get T) takesD (da_cons (d_var 0) (da_cons (d_var 4) da_nil))))
      (dss_cons (ds_setLc (i := 6) rfl sc_law_names.nd rfl rfl (sw_true rfl rfl rfl (by decide +kernel)) (di_range1 rfl T.n_range (da_cons (d_var 4) da_nil)) (blkOk_by (own := [("_law_k", 3)]) (N := ["_law_bag_here", "_law_many", "_law_letters", "_law_k", "_law_size", "_law_place", "_law_same_here", "_law_unlike", "_law_begin", "_law_step", "_law_found", "_law_row", "_law_at"]) (sc := defScope s_law_names) (by decide +kernel)) (gok_name (by decide)) (fun _ _ _ _ _ => (pg_name (i := 3) sc_law_names.nd rfl (Or.inl rfl))) (fun _ _ _ _ _ => dts_nil) (fun _ _ _ _ _ => (d_ixS (d_var 2) (d_callN (ok_law_get T) (hr.mono (by decide)) rfl T.g_law_get T.F_law_get.kp (b_law_get T) takes0 (da_cons (d_var 0) (da_cons d_int da_nil))))))
      (dss_cons (ds_par3 (i := 7) (j := 8) (l := 9) rfl sc_law_names.nd rfl rfl rfl (by decide) (by decide) (by decide) rfl rfl rfl (da_cons (d_callN (ok_law_get T) (hr.mono (by decide)) rfl T.g_law_get T.F_law_get.kp (b_law_get T) takesD (da_cons (d_var 0) (da_cons d_int da_nil))) (da_cons (d_callN (ok_law_get T) (hr.mono (by decide)) rfl T.g_law_get T.F_law_get.kp (b_law_get T) takesD (da_cons (d_var 0) (da_cons d_int da_nil))) (da_cons (d_callN (ok_law_pick T) (hr.mono (by decide)) rfl T.g_law_pick T.F_law_pick.kp (b_law_pick T) takesD (da_cons (d_var 0) (da_cons (d_lst (da_cons d_int (da_cons d_int (da_cons d_int (da_cons d_int (da_cons d_int (da_cons d_int (da_cons d_int (da_cons d_int da_nil))))))))) da_nil))) da_nil))))
      (dss_cons (ds_set (i := 10) sc_law_names.nd rfl (Or.inl rfl) (d_lstM da_nil))
      (dss_cons (ds_for passD rfl (di_range1 rfl T.n_range (da_cons (d_var 1) da_nil)) (dg_name (i := 3) sc_law_names.nd rfl (Or.inl rfl)) (dss_cons (ds_set (i := 11) sc_law_names.nd rfl (Or.inl rfl) (d_callTy call_list_of adq_listM rfl T.n_list (by decide +kernel) (da_cons (d_var 6) da_nil)))
      (dss_cons (ds_if (dt_eq hr.units (d_var 7) d_int) (dss_one (ds_goneA (ds_setLcM (i := 11) rfl sc_law_names.nd rfl rfl (sw_true rfl rfl rfl (by decide +kernel)) (di_range1 rfl T.n_range (da_cons (d_add (d_add (d_var 5) d_int) (d_callN (ok_law_get T) (hr.mono (by decide)) rfl T.g_law_get T.F_law_get.kp (b_law_get T) takesD (da_cons (d_var 0) (da_cons (d_sub d_int (d_var 5)) da_nil)))) da_nil)) (blkOk_by (own := [("_law_at", 12)]) (N := ["_law_bag_here", "_law_many", "_law_letters", "_law_k", "_law_size", "_law_place", "_law_same_here", "_law_unlike", "_law_begin", "_law_step", "_law_found", "_law_row", "_law_at"]) (sc := defScope s_law_names) (by decide +kernel)) (gok_name (by decide)) (fun _ _ _ _ _ => (pg_name (i := 12) sc_law_names.nd rfl (Or.inl rfl))) (fun _ _ _ _ _ => dts_nil) (fun _ _ _ _ _ => (d_ixS (d_var 2) (d_callN (ok_law_get T) (hr.mono (by decide)) rfl T.g_law_get T.F_law_get.kp (b_law_get T) takes0 (da_cons (d_var 0) (da_cons d_int da_nil)))))))) dss_nil)
      (dss_cons (ds_frzA 11 (ds_setix (d_ixS (d_var 2) (d_mod (d_add (d_var 8) (d_mul (d_var 9) (d_var 3))) d_int)) (d_var 11) (d_var 5)))
      (dss_one (ds_expr (d_append (d_var 10) (da_cons (d_join d_str (d_var 11)) da_nil))))))))
      (dss_one (ds_ret (d_frz (d_var 10))))))))))))
  case hsp =>
    skip
    rintro ds cs Q Z ⟨p, m, rfl, hm, hb, h⟩ _
    show (_ : WS) (finD Q Z) [some _, some _, none, none, none, none, none, none, none, none, none, none, none] cs
    walk_at "GO"
    rw [show Str.ofString "abcdefghijklmnopqrstuvwxyz" = lettersS from rfl]
    have hll : lettersS.length ≤ 100000 := by decide +kernel
    refine r_neg_ (by omega) ?_
    walk_at "GO"
    intro g ca g0 g1 st1
    walk_at "GO"
    intro pl cb pl0 pl1 st2
    walk_at "GO"
    refine ⟨by omega, by rw [rng_len]; omega, ?_⟩
    refine r_comp0 (fun i acc cs' => ∃ l : List Nat, acc = l.map sgn ∧ l.length = i ∧ (∀ c ∈ l, 97 ≤ c ∧ c ≤ 122) ∧ BagStep p cb cs') ⟨[], rfl, rfl, fun _ h => (nomatch h), .refl st2.bag⟩ ?_ ?_
    · rintro i d acc cc N hd ⟨l, rfl, hl, hlow, st3⟩ hN
      have hb3 := st3.bag
      walk_at "GO"
      intro x cd x0 x1 st4
      walk_at "GO"
      refine r_ixS hll (letter_at x0 x1) ?_
      refine hN _ _ ⟨l ++ [97 + x.toNat], by rw [List.map_append]; rfl, by rw [List.length_append, hl]; rfl, fun c hc => ?_, st3.trans st4⟩
      rcases List.mem_append.mp hc with hc | hc
      · exact hlow c hc
      · rw [List.mem_singleton.mp hc]; omega
    rintro acc cc ⟨l, rfl, hl, hlow, st3⟩
    rw [rng_len] at hl
    have hb3 := st3.bag
    walk_at "GO"
    intro un cd un0 un1 st4
    walk_at "GO"
    intro bg ce b0 b1 st5
    walk_at "GO"
    intro sd cf hsd st6
    obtain ⟨sp, rfl, hsp⟩ : ∃ s : Int, sd = .int s ∧ s ∈ ([1, 3, 5, 7, 9, 11, 15, 25] : List Int) := by
      simp only [List.mem_cons, List.not_mem_nil, or_false] at hsd
      rcases hsd with rfl | rfl | rfl | rfl | rfl | rfl | rfl | rfl <;> exact ⟨_, rfl, by simp⟩
    have sp0 : 1 ≤ sp ∧ sp ≤ 25 := by
      simp only [List.mem_cons, List.not_mem_nil, or_false] at hsp
      omega
    have stA := ((((st1.trans st2).trans st3).trans st4).trans st5).trans st6
    have hbf := stA.bag
    clear st1 st2 st3 st4 st5 st6 hb3 hsd
    walk_at "GO"
    intro q hq
    have hqp := hbf.ne hq
    walk_at "GO"
    refine ⟨by omega, ?_⟩
    refine r_loop0 (fun i ρ cs' => ∃ (c3 c11 c12 : Option D) (fs : List Str) (cs0 : Cs), ρ = [some (.opq (.ref p)), some (.int (m : Int)), some (.str lettersS), c3, some (.int (1 + g)), some (.int pl), some (.lst (l.map sgn)), some (.int un), some (.int bg), some (.int sp), some (.opq (.ref q)), c11, c12] ∧ cs' = (q, .lst (fs.map D.str)) :: cs0 ∧ BagStep p cf cs0 ∧ fs.length = i ∧ (∀ x ∈ fs, LowOk x) ∧ ∀ (j : Nat) (x : Str), fs[j]? = some x → (TL.tl x)[pl.toNat]? = some (97 + ((bg + sp * (j : Int)) % 26).toNat)) ⟨_, _, _, [], cf, rfl, ⟨rfl, .refl hbf, rfl, fun _ h => (nomatch h), fun j x h => by simp at h⟩⟩ ?_ ?_
    · rintro i d ρ cs' N hd ⟨c3, c11, c12, fs, cs0, rfl, ⟨rfl, stB, hfl, hfo, hfx⟩⟩ hN
      obtain ⟨rfl, hi⟩ := rng_get hd
      have hi : i < m := by simpa using hi
      have hbb := stB.bag
      refine r_seq ?_
      walk_at "G1"
      intro r hr
      have hrp : p ≠ r := (BagIn.over hqp hbb).ne hr
      have hrq : r ≠ q := fun e => hr (by rw [e]; exact List.mem_cons_self ..)
      walk_at "G1"
      refine r_key (fun ρ cs' => ∃ (c12 : Option D) (r2 : Addr) (ls : List Nat) (c0 : Cs), ρ = [some (.opq (.ref p)), some (.int (m : Int)), some (.str lettersS), some (.int (0 + (i : Int))), some (.int (1 + g)), some (.int pl), some (.lst (l.map sgn)), some (.int un), some (.int bg), some (.int sp), some (.opq (.ref q)), some (.opq (.ref r2)), c12] ∧ cs' = (r2, .lst (ls.map sgn)) :: (q, .lst (fs.map D.str)) :: c0 ∧ BagStep p cs0 c0 ∧ r2 ≠ q ∧ p ≠ r2 ∧ pl.toNat < ls.length ∧ ls.length ≤ 8 ∧ ∀ c ∈ ls, 97 ≤ c ∧ c ≤ 122) ?_ (fun nx key => ?_)
      case refine_2 =>
        walk_at "GO"
        refine ⟨fun hk => ?_, fun hk => ?_⟩
        · walk_at "GO"
          intro x cx x0 x1 st
          obtain ⟨cy, rfl, su⟩ := st.under hrp
          obtain ⟨cz, rfl, su2⟩ := su.under hqp
          have hbz := su2.bag
          clear st su
          walk_at "GO"
          refine ⟨by omega, by rw [rng_len]; omega, ?_⟩
          refine r_comp0 (fun i acc cs' => ∃ (ls : List Nat) (c' : Cs), cs' = (r, .lst (l.map sgn)) :: (q, .lst (fs.map D.str)) :: c' ∧ acc = ls.map sgn ∧ ls.length = i ∧ (∀ c ∈ ls, 97 ≤ c ∧ c ≤ 122) ∧ BagStep p cs0 c') ⟨[], cz, rfl, rfl, rfl, fun _ h => (nomatch h), su2⟩ ?_ ?_
          · rintro i2 d2 acc cc N2 hd2 ⟨ls, c', rfl, rfl, hls, hlow2, st3⟩ hN2
            have hb3 := st3.bag
            walk_at "GO"
            intro y cd y0 y1 st4
            obtain ⟨cy, rfl, su⟩ := st4.under hrp
            obtain ⟨cz2, rfl, su3⟩ := su.under hqp
            walk_at "GO"
            refine r_ixS hll (letter_at y0 y1) ?_
            refine hN2 _ _ ⟨ls ++ [97 + y.toNat], cz2, rfl, by rw [List.map_append]; rfl, by rw [List.length_append, hls]; rfl, fun c hc => ?_, st3.trans su3⟩
            rcases List.mem_append.mp hc with hc | hc
            · exact hlow2 c hc
            · rw [List.mem_singleton.mp hc]; omega
          rintro acc cc ⟨ls, c', rfl, rfl, hls, hlow2, st3⟩
          rw [rng_len] at hls
          have hb3 := st3.bag
          walk_at "GO"
          intro r2 hr2
          have hrr : r2 ≠ r := fun e => hr2 (by rw [e]; exact List.mem_cons_self ..)
          have hrq2 : r2 ≠ q := fun e => hr2 (by rw [e]; exact List.mem_cons_of_mem _ (List.mem_cons_self ..))
          have hrp2 : p ≠ r2 := (BagIn.over hrp (BagIn.over hqp hb3)).ne hr2
          refine ⟨r, _, look_2 hrr, ?_⟩
          rw [show DL.del r ((r2, MO.lst (ls.map sgn)) :: (r, MO.lst (l.map sgn)) :: (q, MO.lst (fs.map D.str)) :: c') = (r2, MO.lst (ls.map sgn)) :: (q, MO.lst (fs.map D.str)) :: c' by simp [DL.del, hrr]]
          exact key _ _ ⟨_, r2, ls, c', rfl, ⟨rfl, st3, hrq2, hrp2, by omega, by omega, hlow2⟩⟩
        · walk_at "GO"
          exact key _ _ ⟨_, r, l, cs0, rfl, ⟨rfl, .refl hbb, hrq, hrp, by omega, by omega, hlow⟩⟩
      rintro ρ cv ⟨c12, r2, ls, c0, rfl, ⟨rfl, stC, hrq2, hrp2, hl1, hl2, hlow2⟩⟩
      have k0 : 0 ≤ (bg + sp * (0 + (i : Int))) % 26 := Int.emod_nonneg _ (by decide)
      have k1 : (bg + sp * (0 + (i : Int))) % 26 < 26 := Int.emod_lt_of_pos _ (by decide)
      have ek : (bg + sp * (0 + (i : Int))) % 26 = (bg + sp * (i : Int)) % 26 := by rw [Int.zero_add]
      refine r_seq ?_
      walk_at "GO"
      refine r_ixS hll (letter_at k0 k1) ?_
      rw [ek] at *
      generalize hcc : (bg + sp * (i : Int)) % 26 = cc at k0 k1 ⊢
      walk_at "GO"
      refine r_setL look_hd (j := pl.toNat) (by unfold ixN; rw [if_pos pl0, if_pos (by rw [List.length_map]; omega)]) ?_
      rw [put_hd]
      refine ⟨r2, _, rfl, look_hd, ?_⟩
      rw [del_hd, show (ls.map sgn).set pl.toNat (sgn (97 + cc.toNat)) = (ls.set pl.toNat (97 + cc.toNat)).map sgn from List.map_set.symm]
      walk_at "GO"
      refine r_joinS (strsOf_sgn _) (by
        rw [sum_sgn, List.length_map, List.length_set, show (Str.ofString "").length = 0 from rfl, Nat.mul_zero]; omega) ?_
      rw [join_sgn]
      walk_at "GO"
      have hset : (ls.set pl.toNat (97 + cc.toNat)).length = ls.length := List.length_set
      refine hN _ _ ⟨_, _, _, fs ++ [mkS (ls.set pl.toNat (97 + cc.toNat))], c0, rfl, ⟨by rw [List.map_append]; rfl, stB.trans stC, by rw [List.length_append, hfl]; rfl, fun x hx => ?_, fun j x hx => ?_⟩⟩
      · rcases List.mem_append.mp hx with hx | hx
        · exact hfo x hx
        · rw [List.mem_singleton.mp hx]
          refine ⟨by rw [TL.len_tl, tl_mkS]; omega, by rw [TL.len_tl, tl_mkS]; omega, fun c hc => ?_⟩
          rw [tl_mkS] at hc
          rcases List.mem_or_eq_of_mem_set hc with hc | hc
          · exact hlow2 c hc
          · rw [hc]; omega
      · by_cases hj : j < fs.length
        · rw [List.getElem?_append_left hj] at hx
          exact hfx j x hx
        · rw [List.getElem?_append_right (by omega)] at hx
          have hj2 : j - fs.length = 0 := by
            cases hq2 : j - fs.length with
            | zero => rfl
            | succ n => rw [hq2] at hx; simp at hx
          rw [hj2] at hx
          have e : mkS (ls.set pl.toNat (97 + cc.toNat)) = x := by simpa using hx
          rw [← e, tl_mkS, List.getElem?_set_self hl1, show (j : Int) = i by omega, hcc]
    · rintro ρ cs' ⟨c3, c11, c12, fs, cs0, rfl, ⟨rfl, stB, hfl, hfo, hfx⟩⟩
      rw [rng_len] at hfl
      walk_at "GO"
      exact h fs cs0 ⟨by simpa using hfl, nodup_at hsp (by rw [hfl]; simpa using hm) hfx, hfo⟩ (stA.trans stB)
local macro_rules | `(tactic| walk_at "cl") => `(tactic| (first | ((with_reducible apply r_law_names); (walk_at "in"); (walk_at "bg"))))
def sp_law_parted : DSp := fun ds cs P _ => ∃ (xs : List D) (zs : List Int) (sz : D), ds = [.lst xs, sz] ∧ (sz = .tup (zs.map D.int) ∨ sz = .lst (zs.map D.int)) ∧ xs.length ≤ 1000 ∧ SzOk zs xs.length ∧ P (.lst ((DL.rowsOf xs zs).map D.lst)) cs
theorem r_law_parted {ws : List Int} {zs : List Int} {cs : Cs} {P : DP} {Z : XZ} (hx : ws.length ≤ 1000) (hz : SzOk zs ws.length) (h : P (.lst ((DL.rowsOf ws zs).map fun r => D.lst (r.map D.int))) cs) : sp_law_parted [.lst (ws.map D.int), .tup (zs.map D.int)] cs P Z :=
  ⟨_, zs, _, rfl, .inl rfl, by rw [List.length_map]; exact hx, by rw [List.length_map]; exact hz, by rw [rowsOf_map, List.map_map]; exact h⟩
theorem r_law_partedL {ws : List Int} {zs : List Int} {cs : Cs} {P : DP} {Z : XZ} (hx : ws.length ≤ 1000) (hz : SzOk zs ws.length) (h : P (.lst ((DL.rowsOf ws zs).map fun r => D.lst (r.map D.int))) cs) : sp_law_parted [.lst (ws.map D.int), .lst (zs.map D.int)] cs P Z :=
  ⟨_, zs, _, rfl, .inr rfl, by rw [List.length_map]; exact hx, by rw [List.length_map]; exact hz, by rw [rowsOf_map, List.map_map]; exact h⟩
theorem sc_law_parted : FnScope ["_law_things_now", "_law_sizes_here", "_law_found", "_law_begin", "_law_size"] ["_law_things_now", "_law_sizes_here"] (defScope s_law_parted) := ⟨rfl, rfl, rfl, by decide +kernel, rfl, by decide +kernel, by decide +kernel⟩
theorem ok_law_parted {P : Program} {w : World} {K : PySem.W.Frag} {mg : Str → Option Value} {base : Heap} (T : Txt K mg base) : FnOk P w K mg base (L2.CX P w) 1 (He.ga K "_law_parted") T.fd_law_parted ["_law_things_now", "_law_sizes_here"] (spL K 2 sp_law_parted) := by
  apply ok_def (k := 0) T.F_law_parted sc_law_parted
  case hb =>
    intro cdv A outer s H E hr
    exact (dss_cons (ds_set (i := 2) sc_law_parted.nd rfl (Or.inl rfl) (d_lstM da_nil))
      (dss_cons (ds_set (i := 3) sc_law_parted.nd rfl (Or.inl rfl) d_int)
      (dss_cons (ds_for passD rfl (di_any (d_var 1)) (dg_name (i := 4) sc_law_parted.nd rfl (Or.inl rfl)) (dss_cons (ds_expr (d_append (d_var 2) (da_cons (d_callTy call_list_of adq_list rfl T.n_list (by decide +kernel) (da_cons (d_slice sl_list adq_slL (d_var 0) (do_some (d_var 3)) (do_some (d_add (d_var 3) (d_var 4)))) da_nil)) da_nil)))
      (dss_one (ds_set (i := 3) sc_law_parted.nd rfl (Or.inl rfl) (d_add (d_var 3) (d_var 4))))))
      (dss_one (ds_ret (d_frz (d_var 2)))))))
  case hsp =>
    skip
    rintro ds cs Q Z ⟨xs, zs, sz, rfl, hsz, hx, hz, h⟩ _
    show (_ : WS) (finD Q Z) [some _, some _, none, none, none] cs
    walk_at "GO"
    intro p hp
    rcases hsz with rfl | rfl
    all_goals
      walk_at "GO"
      refine r_loop0 (fun i ρ cs' => ∃ (c1 c4 : Option D), ρ = [some (.lst xs), c1, some (.opq (.ref p)), some (.int (preS zs i)), c4] ∧ cs' = (p, .lst ((List.range i).map fun j => D.lst (rowAt xs zs j))) :: cs) ⟨_, _, by rw [preS_zero]; exact rfl, rfl⟩ ?_ ?_
      · rintro i d ρ cs' N hd ⟨c1, c4, rfl, rfl⟩ hN
        obtain ⟨z, hzz, rfl⟩ := get_map_int hd
        have h1 := preS_nonneg hz.pos i
        have h2 := hz.pre_le (i + 1)
        have h3 := hz.pos z (List.mem_of_getElem? hzz)
        rw [preS_succ hzz] at h2
        walk_at "GO"
        rw [cutD_int h1 (by omega) h2]
        refine r_appendH (by rw [List.length_map, List.length_range]; have := hz.len; have := (List.getElem?_eq_some_iff.mp hzz).1; omega) ?_
        walk_at "GO"
        rw [← preS_succ hzz]
        refine hN _ _ ⟨_, _, rfl, ?_⟩
        rw [List.range_succ, List.map_append]
        have e : rowAt xs zs i = (xs.drop (preS zs i).toNat).take ((preS zs i + z) - preS zs i).toNat := by
          unfold rowAt
          rw [getD_of hzz]
          congr 1
          omega
        rw [← preS_succ hzz] at e
        rw [← e]
        rfl
      · rintro ρ cs' ⟨c1, c4, rfl, rfl⟩
        walk_at "GO"
        rw [List.length_map]
        unfold DL.rowsOf at h
        rw [List.map_map] at h
        exact h
local macro_rules | `(tactic| walk_at "cl") => `(tactic| (first | ((with_reducible apply r_law_parted); (walk_at "in"); (assumption)) | ((with_reducible apply r_law_partedL); (walk_at "in"); (assumption))))
def sp_law_plus : DSp := fun ds cs P _ => ∃ x y : Rat, ds = [dR x, dR y] ∧ Sz 4000 x ∧ Sz 4000 y ∧ P (dR (x + y)) cs
theorem r_law_plus {x y : Rat} {cs : Cs} {P : DP} {Z : XZ} (hx : Sz 4000 x) (hy : Sz 4000 y) (h : P (dR (x + y)) cs) : sp_law_plus [dR x, dR y] cs P Z := ⟨x, y, rfl, hx, hy, h⟩
theorem sc_law_plus : FnScope ["_law_one", "_law_other"] ["_law_one", "_law_other"] (defScope s_law_plus) := ⟨rfl, rfl, rfl, by decide +kernel, rfl, by decide +kernel, by decide +kernel⟩
theorem ok_law_plus {P : Program} {w : World} {K : PySem.W.Frag} {mg : Str → Option Value} {base : Heap} (T : Txt K mg base) : FnOk P w K mg base (L2.CX P w) 3 (He.ga K "_law_plus") T.fd_law_plus ["_law_one", "_law_other"] (spL K 2 sp_law_plus) := by
  apply ok_def (k := 2) T.F_law_plus sc_law_plus
  case hb =>
    intro cdv A outer s H E hr
    exact (dss_one (ds_ret (d_callN (ok_law_part T) (hr.mono (by decide)) rfl T.g_law_part T.F_law_part.kp (b_law_part T) takesD (da_cons (d_add (d_mul (d_sub_ix (d_var 0) d_int) (d_sub_ix (d_var 1) d_int)) (d_mul (d_sub_ix (d_var 1) d_int) (d_sub_ix (d_var 0) d_int))) (da_cons (d_mul (d_sub_ix (d_var 0) d_int) (d_sub_ix (d_var 1) d_int)) da_nil)))))
  case hsp =>
    skip
    rintro ds cs Q Z ⟨x, y, rfl, hx, hy, h⟩ _
    show (_ : WS) (finD Q Z) [some _, some _] cs
    have m1 := hx.nd hy
    have m2 := hy.nd hx
    have m3 := hx.dd hy
    have m4 := hx.nn hy
    walk_at "go"
    exact ⟨_, _, rfl, Int.mul_ne_zero (den_ne x) (den_ne y), dd_ok hx hy (by decide), by rw [divInt_add]; exact h⟩
local macro_rules | `(tactic| walk_at "cl") => `(tactic| (first | ((with_reducible apply r_law_plus); (walk_at "sz"); (walk_at "sz"))))
def sp_law_times : DSp := fun ds cs P _ => ∃ x y : Rat, ds = [dR x, dR y] ∧ Sz 4000 x ∧ Sz 4000 y ∧ P (dR (x * y)) cs
theorem r_law_times {x y : Rat} {cs : Cs} {P : DP} {Z : XZ} (hx : Sz 4000 x) (hy : Sz 4000 y) (h : P (dR (x * y)) cs) : sp_law_times [dR x, dR y] cs P Z := ⟨x, y, rfl, hx, hy, h⟩
theorem sc_law_times : FnScope ["_law_one", "_law_other"] ["_law_one", "_law_other"] (defScope s_law_times) := ⟨rfl, rfl, rfl, by decide +kernel, rfl, by decide +kernel, by decide +kernel⟩
theorem ok_law_times {P : Program} {w : World} {K : PySem.W.Frag} {mg : Str → Option Value} {base : Heap} (T : Txt K mg base) : FnOk P w K mg base (L2.CX P w) 3 (He.ga K "_law_times") T.fd_law_times ["_law_one", "_law_other"] (spL K 2 sp_law_times) := by
  apply ok_def (k := 2) T.F_law_times sc_law_times
  case hb =>
    intro cdv A outer s H E hr
    exact (dss_one (ds_ret (d_callN (ok_law_part T) (hr.mono (by decide)) rfl T.g_law_part T.F_law_part.kp (b_law_part T) takesD (da_cons (d_mul (d_sub_ix (d_var 0) d_int) (d_sub_ix (d_var 1) d_int)) (da_cons (d_mul (d_sub_ix (d_var 0) d_int) (d_sub_ix (d_var 1) d_int)) da_nil)))))
  case hsp =>
    skip
    rintro ds cs Q Z ⟨x, y, rfl, hx, hy, h⟩ _
    show (_ : WS) (finD Q Z) [some _, some _] cs
    have m1 := hx.nd hy
    have m2 := hy.nd hx
    have m3 := hx.dd hy
    have m4 := hx.nn hy
    walk_at "go"
    exact ⟨_, _, rfl, Int.mul_ne_zero (den_ne x) (den_ne y), dd_ok hx hy (by decide), by rw [divInt_mul]; exact h⟩
local macro_rules | `(tactic| walk_at "cl") => `(tactic| (first | ((with_reducible apply r_law_times); (walk_at "sz"); (walk_at "sz"))))
def sp_law_split : DSp := fun ds cs P _ => ∃ (b : Bx) (ws : List Int) (dn : Bool), ds = [b.d, .lst (ws.map D.int), sideD dn] ∧ WOk ws ∧ b.Sz 1900 ∧ P (.lst ((splitB b ws dn).map Bx.d)) cs
theorem r_law_split {b : Bx} {ws : List Int} {dn : Bool} {cs : Cs} {P : DP} {Z : XZ} (hw : WOk ws) (hb : b.Sz 1900) (h : P (.lst ((splitB b ws dn).map Bx.d)) cs) : sp_law_split [b.d, .lst (ws.map D.int), sideD dn] cs P Z := ⟨b, ws, dn, rfl, hw, hb, h⟩
theorem sc_law_split : FnScope ["_law_box", "_law_weights_here", "_law_lean_here", "_law_left", "_law_top", "_law_wide", "_law_high", "_law_found", "_law_before", "_law_weight_here", "_law_begin", "_law_share"] ["_law_box", "_law_weights_here", "_law_lean_here"] (defScope s_law_split) := ⟨rfl, rfl, rfl, by decide +kernel, rfl, by decide +kernel, by decide +kernel⟩
theorem ok_law_split {P : Program} {w : World} {K : PySem.W.Frag} {mg : Str → Option Value} {base : Heap} (T : Txt K mg base) : FnOk P w K mg base (L2.CX P w) 4 (He.ga K "_law_split") T.fd_law_split ["_law_box", "_law_weights_here", "_law_lean_here"] (spL K 3 sp_law_split) := by
  apply ok_def (k := 3) T.F_law_split sc_law_split
  case hb =>
    intro cdv A outer s H E hr
    exact (dss_cons (ds_asg (d_var 0) (dg_tup (n := 4) rfl (dgs_cons (dg_name (i := 3) sc_law_split.nd rfl (Or.inl rfl)) (dgs_cons (dg_name (i := 4) sc_law_split.nd rfl (Or.inl rfl)) (dgs_cons (dg_name (i := 5) sc_law_split.nd rfl (Or.inl rfl)) (dgs_cons (dg_name (i := 6) sc_law_split.nd rfl (Or.inl rfl)) dgs_nil))))))
      (dss_cons (ds_set (i := 7) sc_law_split.nd rfl (Or.inl rfl) (d_lstM da_nil))
      (dss_cons (ds_set (i := 8) sc_law_split.nd rfl (Or.inl rfl) d_int)
      (dss_cons (ds_for passD rfl (di_list (d_var 1)) (dg_name (i := 9) sc_law_split.nd rfl (Or.inl rfl)) (dss_cons (ds_par (i := 10) (j := 11) rfl sc_law_split.nd rfl rfl (by decide) rfl rfl (da_cons (d_callN (ok_law_part T) (hr.mono (by decide)) rfl T.g_law_part T.F_law_part.kp (b_law_part T) takesD (da_cons (d_var 8) (da_cons (d_callB (cr_sumA rfl) adq_sumA rfl T.n_sum (by decide +kernel) (da_cons (d_var 1) da_nil)) da_nil))) (da_cons (d_callN (ok_law_part T) (hr.mono (by decide)) rfl T.g_law_part T.F_law_part.kp (b_law_part T) takesD (da_cons (d_var 9) (da_cons (d_callB (cr_sumA rfl) adq_sumA rfl T.n_sum (by decide +kernel) (da_cons (d_var 1) da_nil)) da_nil))) da_nil)))
      (dss_cons (ds_if (dt_eq hr.units (d_var 2) d_str) (dss_one (ds_expr (d_append (d_var 7) (da_cons (d_tup (da_cons (d_var 3) (da_cons (d_callN (ok_law_plus T) (hr.mono (by decide)) rfl T.g_law_plus T.F_law_plus.kp (b_law_plus T) takesD (da_cons (d_var 4) (da_cons (d_callN (ok_law_times T) (hr.mono (by decide)) rfl T.g_law_times T.F_law_times.kp (b_law_times T) takesD (da_cons (d_var 6) (da_cons (d_var 10) da_nil))) da_nil))) (da_cons (d_var 5) (da_cons (d_callN (ok_law_times T) (hr.mono (by decide)) rfl T.g_law_times T.F_law_times.kp (b_law_times T) takesD (da_cons (d_var 6) (da_cons (d_var 11) da_nil))) da_nil))))) da_nil)))) (dss_one (ds_expr (d_append (d_var 7) (da_cons (d_tup (da_cons (d_callN (ok_law_plus T) (hr.mono (by decide)) rfl T.g_law_plus T.F_law_plus.kp (b_law_plus T) takesD (da_cons (d_var 3) (da_cons (d_callN (ok_law_times T) (hr.mono (by decide)) rfl T.g_law_times T.F_law_times.kp (b_law_times T) takesD (da_cons (d_var 5) (da_cons (d_var 10) da_nil))) da_nil))) (da_cons (d_var 4) (da_cons (d_callN (ok_law_times T) (hr.mono (by decide)) rfl T.g_law_times T.F_law_times.kp (b_law_times T) takesD (da_cons (d_var 5) (da_cons (d_var 11) da_nil))) (da_cons (d_var 6) da_nil))))) da_nil)))))
      (dss_one (ds_set (i := 8) sc_law_split.nd rfl (Or.inl rfl) (d_add (d_var 8) (d_var 9)))))))
      (dss_one (ds_ret (d_frz (d_var 7))))))))
  case hsp =>
    skip
    rintro ds cs Q Z ⟨b, ws, dn, rfl, hw, hb, h⟩ _
    have hs := hw.sum_pos
    have hs2 := hw.sum
    show (_ : WS) (finD Q Z) [some _, some _, some _, none, none, none, none, none, none, none, none, none] cs
    unfold Bx.d dB
    walk_at "go"
    intro p hp
    walk_at "go"
    cases dn
    · refine r_loop0 (fun i ρ cs' => ∃ c0 c9 c10 c11, ρ = [c0, some (.lst (ws.map D.int)), some (sideD false), some (dR b.l), some (dR b.t), some (dR b.w), some (dR b.h), some (.opq (.ref p)), some (.int (preS ws i)), c9, c10, c11] ∧ cs' = (p, .lst ((List.range i).map fun j => (splitAt_ b ws false j).d)) :: cs) ⟨_, none, none, none, by rw [preS_zero]; exact rfl, rfl⟩ ?_ ?_
      · rintro i d ρ cs' N hd ⟨c0, c9, c10, c11, rfl, rfl⟩ hN
        obtain ⟨wt, hwt, rfl⟩ := get_map_int hd
        have hi : i < ws.length := (List.getElem?_eq_some_iff.mp hwt).1
        have f1 := Sz.frac (a := wt) (by have := hw.pos _ (List.mem_of_getElem? hwt); omega) (by have := mem_le_sum hw.pos hwt; omega) hs hs2
        have f2 := Sz.frac (preS_nonneg hw.pos i) (by have := preS_le hw.pos i; omega) hs hs2
        walk_at "go"
        refine ⟨ws, .inl rfl, ?_⟩
        walk_at "go"
        refine ⟨preS ws i, ws.sum, rfl, by omega, szlt hs hs2, ?_⟩
        walk_at "go"
        refine ⟨ws, .inl rfl, ?_⟩
        walk_at "go"
        refine ⟨wt, ws.sum, rfl, by omega, szlt hs hs2, ?_⟩
        walk_at "go"
        refine ⟨b.w, Rat.divInt (preS ws i) ws.sum, rfl, hb.w.mono (by decide), f2.mono (by decide), ?_⟩
        walk_at "go"
        refine ⟨b.l, b.w * Rat.divInt (preS ws i) ws.sum, rfl, hb.l.mono (by decide), (hb.w.mul f2).mono (by decide), ?_⟩
        walk_at "go"
        refine ⟨b.w, Rat.divInt wt ws.sum, rfl, hb.w.mono (by decide), f1.mono (by decide), ?_⟩
        walk_at "go"
        refine r_appendH (by rw [List.length_map, List.length_range]; have := hw.l1; omega) ?_
        walk_at "go"
        rw [← preS_succ hwt]
        refine hN _ _ ⟨_, _, _, _, rfl, ?_⟩
        have e2 : splitAt_ b ws false i = cutB b false (Rat.divInt (preS ws i) ws.sum) (Rat.divInt wt ws.sum) := by
          unfold splitAt_
          rw [List.getD_eq_getElem?_getD, hwt]; rfl
        rw [List.range_succ, List.map_append, List.map_cons, List.map_nil, e2]
        rfl
      · rintro ρ cs' ⟨c0, c9, c10, c11, rfl, rfl⟩
        walk_at "go"
        rw [List.length_map]
        have h2 := h
        unfold splitB at h2
        rw [List.map_map] at h2
        exact h2
    · refine r_loop0 (fun i ρ cs' => ∃ c0 c9 c10 c11, ρ = [c0, some (.lst (ws.map D.int)), some (sideD true), some (dR b.l), some (dR b.t), some (dR b.w), some (dR b.h), some (.opq (.ref p)), some (.int (preS ws i)), c9, c10, c11] ∧ cs' = (p, .lst ((List.range i).map fun j => (splitAt_ b ws true j).d)) :: cs) ⟨_, none, none, none, by rw [preS_zero]; exact rfl, rfl⟩ ?_ ?_
      · rintro i d ρ cs' N hd ⟨c0, c9, c10, c11, rfl, rfl⟩ hN
        obtain ⟨wt, hwt, rfl⟩ := get_map_int hd
        have hi : i < ws.length := (List.getElem?_eq_some_iff.mp hwt).1
        have f1 := Sz.frac (a := wt) (by have := hw.pos _ (List.mem_of_getElem? hwt); omega) (by have := mem_le_sum hw.pos hwt; omega) hs hs2
        have f2 := Sz.frac (preS_nonneg hw.pos i) (by have := preS_le hw.pos i; omega) hs hs2
        walk_at "go"
        refine ⟨ws, .inl rfl, ?_⟩
        walk_at "go"
        refine ⟨preS ws i, ws.sum, rfl, by omega, szlt hs hs2, ?_⟩
        walk_at "go"
        refine ⟨ws, .inl rfl, ?_⟩
        walk_at "go"
        refine ⟨wt, ws.sum, rfl, by omega, szlt hs hs2, ?_⟩
        walk_at "go"
        refine ⟨b.h, Rat.divInt (preS ws i) ws.sum, rfl, hb.h.mono (by decide), f2.mono (by decide), ?_⟩
        walk_at "go"
        refine ⟨b.t, b.h * Rat.divInt (preS ws i) ws.sum, rfl, hb.t.mono (by decide), (hb.h.mul f2).mono (by decide), ?_⟩
        walk_at "go"
        refine ⟨b.h, Rat.divInt wt ws.sum, rfl, hb.h.mono (by decide), f1.mono (by decide), ?_⟩
        walk_at "go"
        refine r_appendH (by rw [List.length_map, List.length_range]; have := hw.l1; omega) ?_
        walk_at "go"
        rw [← preS_succ hwt]
        refine hN _ _ ⟨_, _, _, _, rfl, ?_⟩
        have e2 : splitAt_ b ws true i = cutB b true (Rat.divInt (preS ws i) ws.sum) (Rat.divInt wt ws.sum) := by
          unfold splitAt_
          rw [List.getD_eq_getElem?_getD, hwt]; rfl
        rw [List.range_succ, List.map_append, List.map_cons, List.map_nil, e2]
        rfl
      · rintro ρ cs' ⟨c0, c9, c10, c11, rfl, rfl⟩
        walk_at "go"
        rw [List.length_map]
        have h2 := h
        unfold splitB at h2
        rw [List.map_map] at h2
        exact h2
local macro_rules | `(tactic| walk_at "cl") => `(tactic| (first | ((with_reducible apply r_law_split); (walk_at "wk"); (walk_at "sz"))))
def sp_law_turned_lean : DSp := fun ds cs P _ => ∃ dn, ds = [sideD dn] ∧ P (sideD !dn) cs
theorem r_law_turned_lean {dn : Bool} {cs : Cs} {P : DP} {Z : XZ} (h : P (sideD !dn) cs) : sp_law_turned_lean [sideD dn] cs P Z := ⟨dn, rfl, h⟩
theorem sc_law_turned_lean : FnScope ["_law_lean_here"] ["_law_lean_here"] (defScope s_law_turned_lean) := ⟨rfl, rfl, rfl, by decide +kernel, rfl, by decide +kernel, by decide +kernel⟩
theorem ok_law_turned_lean {P : Program} {w : World} {K : PySem.W.Frag} {mg : Str → Option Value} {base : Heap} (T : Txt K mg base) : FnOk P w K mg base (L2.CX P w) 1 (He.ga K "_law_turned_lean") T.fd_law_turned_lean ["_law_lean_here"] (spL K 1 sp_law_turned_lean) := by
  apply ok_def (k := 0) T.F_law_turned_lean sc_law_turned_lean
  case hb =>
    intro cdv A outer s H E hr
    exact (dss_one (ds_ret (d_if (dt_eq hr.units (d_var 0) d_str) d_str d_str)))
  case hsp =>
    skip
    rintro ds cs Q Z ⟨dn, rfl, h⟩ _
    show (_ : WS) (finD Q Z) [some _] cs
    walk_at "GO"
    cases dn
    · walk_at "GO"
      exact h
    · walk_at "GO"
      exact h
local macro_rules | `(tactic| walk_at "cl") => `(tactic| (first | (with_reducible refine r_law_turned_lean ?_)))
def sp_law_laid : DSp := fun ds cs P _ => ∃ (b : Bx) (ws zs : List Int) (dn : Bool) (sz : D), ds = [b.d, .lst (ws.map D.int), sz, sideD dn] ∧ (sz = .tup (zs.map D.int) ∨ sz = .lst (zs.map D.int)) ∧ WOk ws ∧ SzOk zs ws.length ∧ b.Sz 800 ∧ P (.lst ((laidB b ws zs dn).map Bx.d)) cs
theorem r_law_laid {b : Bx} {ws zs : List Int} {dn : Bool} {cs : Cs} {P : DP} {Z : XZ} (hw : WOk ws) (hz : SzOk zs ws.length) (hs : b.Sz 800) (h : P (.lst ((laidB b ws zs dn).map Bx.d)) cs) : sp_law_laid [b.d, .lst (ws.map D.int), .tup (zs.map D.int), sideD dn] cs P Z := ⟨b, ws, zs, dn, _, rfl, .inl rfl, hw, hz, hs, h⟩
theorem r_law_laidL {b : Bx} {ws zs : List Int} {dn : Bool} {cs : Cs} {P : DP} {Z : XZ} (hw : WOk ws) (hz : SzOk zs ws.length) (hs : b.Sz 800) (h : P (.lst ((laidB b ws zs dn).map Bx.d)) cs) : sp_law_laid [b.d, .lst (ws.map D.int), .lst (zs.map D.int), sideD dn] cs P Z := ⟨b, ws, zs, dn, _, rfl, .inr rfl, hw, hz, hs, h⟩
theorem sc_law_laid : FnScope ["_law_box", "_law_weights_here", "_law_sizes_here", "_law_lean_here", "_law_rows", "_law_found", "_law_row", "_law_inner"] ["_law_box", "_law_weights_here", "_law_sizes_here", "_law_lean_here"] (defScope s_law_laid) := ⟨rfl, rfl, rfl, by decide +kernel, rfl, by decide +kernel, by decide +kernel⟩
theorem ok_law_laid {P : Program} {w : World} {K : PySem.W.Frag} {mg : Str → Option Value} {base : Heap} (T : Txt K mg base) : FnOk P w K mg base (L2.CX P w) 5 (He.ga K "_law_laid") T.fd_law_laid ["_law_box", "_law_weights_here", "_law_sizes_here", "_law_lean_here"] (spL K 4 sp_law_laid) := by
  apply ok_def (k := 4) T.F_law_laid sc_law_laid
  case hb =>
    intro cdv A outer s H E hr
    exact (dss_cons (ds_set (i := 4) sc_law_laid.nd rfl (Or.inl rfl) (d_callN (ok_law_parted T) (hr.mono (by decide)) rfl T.g_law_parted T.F_law_parted.kp (b_law_parted T) takesD (da_cons (d_var 1) (da_cons (d_var 2) da_nil))))
      (dss_cons (ds_set (i := 5) sc_law_laid.nd rfl (Or.inl rfl) (d_lst da_nil))
      (dss_cons (ds_for passD rfl (di_zip rfl T.n_zip (da_cons (d_var 4) (da_cons (d_callN (ok_law_split T) (hr.mono (by decide)) rfl T.g_law_split T.F_law_split.kp (b_law_split T) takesD (da_cons (d_var 0) (da_cons (d_lc rfl sc_law_laid.nd (di_list (d_var 4)) (blkOk_by (own := [("_law_row", 6)]) (N := ["_law_box", "_law_weights_here", "_law_sizes_here", "_law_lean_here", "_law_rows", "_law_found", "_law_row", "_law_inner"]) (sc := defScope s_law_laid) (by decide +kernel)) (gok_name (by decide)) (fun _ _ _ _ _ => (pg_name (i := 6) sc_law_laid.nd rfl (Or.inl rfl))) (fun _ _ _ _ _ => dts_nil) (fun _ _ _ _ _ => (d_callB (cr_sumA rfl) adq_sumA rfl T.n_sum (by decide +kernel) (da_cons (d_var 6) da_nil)))) (da_cons (d_var 3) da_nil)))) da_nil))) (dg_tup (n := 2) rfl (dgs_cons (dg_name (i := 6) sc_law_laid.nd rfl (Or.inl rfl)) (dgs_cons (dg_name (i := 7) sc_law_laid.nd rfl (Or.inl rfl)) dgs_nil))) (dss_one (ds_set (i := 5) sc_law_laid.nd rfl (Or.inl rfl) (d_catL (d_var 5) (d_callN (ok_law_split T) (hr.mono (by decide)) rfl T.g_law_split T.F_law_split.kp (b_law_split T) takesD (da_cons (d_var 7) (da_cons (d_var 6) (da_cons (d_callN (ok_law_turned_lean T) (hr.mono (by decide)) rfl T.g_law_turned_lean T.F_law_turned_lean.kp (b_law_turned_lean T) takesD (da_cons (d_var 3) da_nil)) da_nil))))))))
      (dss_one (ds_ret (d_var 5))))))
  case hsp =>
    skip
    rintro ds cs Q Z ⟨b, ws, zs, dn, sz, rfl, hsz, hw, hz, hb, h⟩ _
    have hl := hw.l1
    have hs := sums_wok hw hz
    show (_ : WS) (finD Q Z) [some _, some _, some _, some _, none, none, none, none] cs
    rcases hsz with rfl | rfl
    all_goals
      walk_at "GO"
      refine ⟨by rw [List.length_map]; unfold DL.rowsOf; rw [List.length_map, List.length_range]; have := hz.len; omega, ?_⟩
      refine r_cm (fun r => .int r.sum) (fun r N N' hm hN => ?_) ?_
      · walk_at "GO"
        exact hN
      rw [show (DL.rowsOf ws zs).map (fun r => D.int r.sum) = (sumsOf ws zs).map D.int by unfold DL.rowsOf sumsOf; rw [List.map_map, List.map_map]; rfl]
      walk_at "GO"
      refine r_loopE (l := List.range zs.length) (g := fun i => .tup [.lst ((rowAt ws zs i).map D.int), (splitAt_ b (sumsOf ws zs) dn i).d]) (fun i ρ cs' => ∃ (c2 c4 c6 c7 : Option D), ρ = [some (b.d), some (.lst (ws.map D.int)), c2, some (sideD dn), c4, some (.lst (((List.range i).flatMap (laidAt b ws zs dn)).map Bx.d)), c6, c7] ∧ cs' = cs) (by unfold DL.rowsOf splitB; rw [sums_len, List.map_map, List.map_map, zip_map]; rfl) ⟨_, _, _, _, rfl, rfl⟩ ?_ ?_
      · rintro i i' ρ cs' N hd ⟨c2, c4, c6, c7, rfl, rfl⟩ hN
        obtain ⟨hi, rfl⟩ := range_get hd
        have rw_ := row_wok hw hz hi
        have sz_ := splitAt_sz hb hs dn (i := i) (by rw [sums_len]; exact hi)
        walk_at "GO"
        refine r_catLL ?_ ?_
        · have e := laid_pre b dn hz (i := i) (by omega)
          have e2 := rw_.l1
          rw [List.length_map, List.length_map, DL.split_len, e, List.length_take]
          omega
        walk_at "GO"
        have e := flat_more (laidAt b ws zs dn) Bx.d i
        unfold laidAt at e ⊢
        rw [e]
        exact hN _ _ ⟨_, _, _, _, rfl, rfl⟩
      · rintro ρ cs' ⟨c2, c4, c6, c7, rfl, rfl⟩
        walk_at "GO"
        rw [List.length_range]
        exact h
local macro_rules | `(tactic| walk_at "cl") => `(tactic| (first | ((with_reducible apply r_law_laid); (walk_at "wk"); (assumption); (walk_at "sz")) | ((with_reducible apply r_law_laidL); (walk_at "wk"); (assumption); (walk_at "sz"))))
def sp_law_sizes : DSp := fun ds cs P _ => ∃ (p : Addr) (m : Nat), ds = [.opq (.ref p), .int (m : Int)] ∧ 1 ≤ m ∧ m ≤ 1000 ∧ BagIn p cs ∧ ∀ zs cs', SzOk zs m → BagStep p cs cs' → P (.tup (zs.map D.int)) cs'
theorem r_law_sizes {p : Addr} {m : Nat} {cs : Cs} {P : DP} {Z : XZ} (m0 : 1 ≤ m) (m1 : m ≤ 1000) (hb : BagIn p cs) (h : ∀ zs cs', SzOk zs m → BagStep p cs cs' → P (.tup (zs.map D.int)) cs') : sp_law_sizes [.opq (.ref p), .int (m : Int)] cs P Z := ⟨p, m, rfl, m0, m1, hb, h⟩
theorem sc_law_sizes : FnScope ["_law_bag_here", "_law_many", "_law_found", "_law_left", "_law_kind", "_law_size"] ["_law_bag_here", "_law_many"] (defScope s_law_sizes) := ⟨rfl, rfl, rfl, by decide +kernel, rfl, by decide +kernel, by decide +kernel⟩
theorem ok_law_sizes {P : Program} {w : World} {K : PySem.W.Frag} {mg : Str → Option Value} {base : Heap} (T : Txt K mg base) : FnOk P w K mg base (L2.CX P w) 2 (He.ga K "_law_sizes") T.fd_law_sizes ["_law_bag_here", "_law_many"] (spL K 2 sp_law_sizes) := by
  apply ok_def (k := 1) T.F_law_sizes sc_law_sizes
  case hb =>
    intro cdv A outer s H E hr
    exact (dss_cons (ds_set (i := 2) sc_law_sizes.nd rfl (Or.inl rfl) (d_lstM da_nil))
      (dss_cons (ds_set (i := 3) sc_law_sizes.nd rfl (Or.inl rfl) (d_var 1))
      (dss_cons (ds_set (i := 4) sc_law_sizes.nd rfl (Or.inl rfl) (d_callN (ok_law_get T) (hr.mono (by decide)) rfl T.g_law_get T.F_law_get.kp (b_law_get T) takesD (da_cons (d_var 0) (da_cons d_int da_nil))))
      (dss_cons (ds_while passD (dt_gt (d_var 3) d_int) (dss_cons (ds_set (i := 5) sc_law_sizes.nd rfl (Or.inl rfl) (d_sub_ix (d_lst (da_cons (d_add d_int (d_callN (ok_law_get T) (hr.mono (by decide)) rfl T.g_law_get T.F_law_get.kp (b_law_get T) takesD (da_cons (d_var 0) (da_cons (d_var 3) da_nil)))) (da_cons d_int (da_cons (d_add d_int (d_callN (ok_law_get T) (hr.mono (by decide)) rfl T.g_law_get T.F_law_get.kp (b_law_get T) takesD (da_cons (d_var 0) (da_cons (d_callB (call_min2 rfl) adq_min2 rfl T.n_min (by decide +kernel) (da_cons (d_var 3) (da_cons d_int da_nil))) da_nil)))) da_nil)))) (d_var 4)))
      (dss_cons (ds_expr (d_append (d_var 2) (da_cons (d_var 5) da_nil)))
      (dss_one (ds_set (i := 3) sc_law_sizes.nd rfl (Or.inl rfl) (d_sub (d_var 3) (d_var 5)))))))
      (dss_one (ds_ret (d_callTy call_tuple_of adq_tuple rfl T.n_tuple (by decide +kernel) (da_cons (d_frz (d_var 2)) da_nil))))))))
  case hsp =>
    skip
    rintro ds cs Q Z ⟨p, m, rfl, m0, m1, hb, h⟩ _
    show (_ : WS) (finD Q Z) [some _, some _, none, none, none, none] cs
    walk_at "GO"
    intro q hq
    have hqp := hb.ne hq
    walk_at "GO"
    intro k cs1 k0 k1 st1
    obtain ⟨cs1', rfl, su1⟩ := st1.under hqp
    clear st1
    walk_at "GO"
    refine r_while (fun i ρ cs' => ∃ (c5 : Option D) (zs : List Int) (cs0 : Cs), ρ = [some (.opq (.ref p)), some (.int m), some (.opq (.ref q)), some (.int (i : Int)), some (.int k), c5] ∧ (∀ z ∈ zs, 1 ≤ z) ∧ zs.sum + i = m ∧ cs' = (q, .lst (zs.map D.int)) :: cs0 ∧ BagStep p cs cs0) ⟨m, ⟨_, [], cs1', rfl, ⟨fun _ h => (nomatch h), by simp, rfl, su1⟩⟩⟩ ?_
    rintro i ρ cs' N ⟨c5, zs, cs0, rfl, ⟨hp, hs, rfl, st⟩⟩ hN
    walk_at "GO"
    have hzl := len_le_sum hp
    refine ⟨fun hk => ?_, fun hk => ?_⟩
    · have i0 := decT hk
      walk_at "GO"
      intro g1 cs2 a0 a1 st2
      obtain ⟨cs2', rfl, su2⟩ := st2.under hqp
      clear st2
      walk_at "GO"
      intro g2 cs3 b0 b1 st3
      obtain ⟨cs3', rfl, su3⟩ := st3.under hqp
      clear st3
      walk_at "GO"
      have key : ∀ z : Int, 1 ≤ z → z ≤ i → N [some (.opq (.ref p)), some (.int m), some (.opq (.ref q)), some (.int ((i : Int) - z)), some (.int k), some (.int z)] ((q, .lst (zs.map D.int ++ [.int z])) :: cs3') := fun z z0 z1 =>
        hN (i - z.toNat) _ _ (by omega) ⟨_, zs ++ [z], cs3', by rw [show ((i - z.toNat : Nat) : Int) = (i : Int) - z by omega], fun x hx => by
          rcases List.mem_append.mp hx with hx | hx
          · exact hp x hx
          · rw [List.mem_singleton.mp hx]; exact z0, by rw [List.sum_append]; simp; omega, by rw [List.map_append]; rfl, (st.trans su2).trans su3⟩
      have hk3 : k = 0 ∨ k = 1 ∨ k = 2 := by omega
      rcases hk3 with rfl | rfl | rfl
      · refine r_ixL (d := .int (1 + g1)) rfl ?_
        walk_at "GO"
        exact key (1 + g1) (by omega) (by omega)
      · refine r_ixL (d := .int 1) rfl ?_
        walk_at "GO"
        exact key 1 (by omega) (by omega)
      · refine r_ixL (d := .int (1 + g2)) rfl ?_
        walk_at "GO"
        exact key (1 + g2) (by omega) (by split at b1 <;> omega)
    · have i0 := decF hk
      walk_at "GO"
      exact h zs _ ⟨hp, by omega⟩ st
local macro_rules | `(tactic| walk_at "cl") => `(tactic| (first | ((with_reducible apply r_law_sizes); (walk_at "in"); (walk_at "in"); (walk_at "bg"))))
def sp_law_lean : DSp := fun ds cs P _ => ∃ p, ds = [.opq (.ref p)] ∧ BagIn p cs ∧ ∀ dn cs', BagStep p cs cs' → P (sideD dn) cs'
theorem r_law_lean {p : Addr} {cs : Cs} {P : DP} {Z : XZ} (hb : BagIn p cs) (h : ∀ dn cs', BagStep p cs cs' → P (sideD dn) cs') : sp_law_lean [.opq (.ref p)] cs P Z := ⟨p, rfl, hb, h⟩
theorem sc_law_lean : FnScope ["_law_bag_here"] ["_law_bag_here"] (defScope s_law_lean) := ⟨rfl, rfl, rfl, by decide +kernel, rfl, by decide +kernel, by decide +kernel⟩
theorem ok_law_lean {P : Program} {w : World} {K : PySem.W.Frag} {mg : Str → Option Value} {base : Heap} (T : Txt K mg base) : FnOk P w K mg base (L2.CX P w) 2 (He.ga K "_law_lean") T.fd_law_lean ["_law_bag_here"] (spL K 1 sp_law_lean) := by
  apply ok_def (k := 1) T.F_law_lean sc_law_lean
  case hb =>
    intro cdv A outer s H E hr
    exact (dss_one (ds_ret (d_sub_ix (d_lst (da_cons d_str (da_cons d_str da_nil))) (d_callN (ok_law_get T) (hr.mono (by decide)) rfl T.g_law_get T.F_law_get.kp (b_law_get T) takesD (da_cons (d_var 0) (da_cons d_int da_nil))))))
  case hsp =>
    skip
    rintro ds cs Q Z ⟨p, rfl, hb, h⟩ _
    show (_ : WS) (finD Q Z) [some _] cs
    walk_at "go"
    refine ⟨p, 2, rfl, by decide, by decide, hb, fun g cs1 g0 g1 st => ?_⟩
    have hg : g = 0 ∨ g = 1 := by omega
    rcases hg with rfl | rfl
    · walk_at "go"
      exact h true _ st
    · walk_at "go"
      exact h false _ st
local macro_rules | `(tactic| walk_at "cl") => `(tactic| (first | ((with_reducible apply r_law_lean); (walk_at "bg"))))
def sp_law_boxes_named : DSp := fun ds cs P _ => ∃ (p : Addr) (m : Int), ds = [.opq (.ref p), .int m] ∧ 1 ≤ m ∧ m ≤ 12 ∧ BagIn p cs ∧ ∀ (b : Bx) (ws zs : List Int) (dn : Bool) (ns : List Str) cs', b.Pos → b.Sz 202 → b.l = 0 → b.t = 0 → WtOk ws → (ws.length : Int) ≤ m → SzOk zs ws.length → NamesOk ns ws.length → BagStep p cs cs' → ∀ q, q ∉ adr cs' → P (.tup [b.d, .opq (.ref q)]) ((q, .dic (dicZ ns ((laidB b ws zs dn).map Bx.d))) :: cs')
theorem r_law_boxes_named {p : Addr} {m : Int} {cs : Cs} {P : DP} {Z : XZ} (m0 : 1 ≤ m) (m1 : m ≤ 12) (hb : BagIn p cs) (h : ∀ (b : Bx) (ws zs : List Int) (dn : Bool) (ns : List Str) cs', b.Pos → b.Sz 202 → b.l = 0 → b.t = 0 → WtOk ws → (ws.length : Int) ≤ m → SzOk zs ws.length → NamesOk ns ws.length → BagStep p cs cs' → ∀ q, q ∉ adr cs' → P (.tup [b.d, .opq (.ref q)]) ((q, .dic (dicZ ns ((laidB b ws zs dn).map Bx.d))) :: cs')) : sp_law_boxes_named [.opq (.ref p), .int m] cs P Z := ⟨p, m, rfl, m0, m1, hb, h⟩
theorem sc_law_boxes_named : FnScope ["_law_bag_here", "_law_most", "_law_weights_here", "_law_box", "_law_names_here", "_law_boxes"] ["_law_bag_here", "_law_most"] (defScope s_law_boxes_named) := ⟨rfl, rfl, rfl, by decide +kernel, rfl, by decide +kernel, by decide +kernel⟩
theorem ok_law_boxes_named {P : Program} {w : World} {K : PySem.W.Frag} {mg : Str → Option Value} {base : Heap} (T : Txt K mg base) : FnOk P w K mg base (L2.CX P w) 7 (He.ga K "_law_boxes_named") T.fd_law_boxes_named ["_law_bag_here", "_law_most"] (spL K 2 sp_law_boxes_named) := by
  apply ok_def (k := 6) T.F_law_boxes_named sc_law_boxes_named
  case hb =>
    intro cdv A outer s H E hr
    exact (dss_cons (ds_set (i := 2) sc_law_boxes_named.nd rfl (Or.inl rfl) (d_callN (ok_law_weights T) (hr.mono (by decide)) rfl T.g_law_weights T.F_law_weights.kp (b_law_weights T) takesD (da_cons (d_var 0) (da_cons (d_var 1) da_nil))))
      (dss_cons (ds_set (i := 3) sc_law_boxes_named.nd rfl (Or.inl rfl) (d_callN (ok_law_plain_box T) (hr.mono (by decide)) rfl T.g_law_plain_box T.F_law_plain_box.kp (b_law_plain_box T) takesD (da_cons (d_var 0) da_nil)))
      (dss_cons (ds_set (i := 4) sc_law_boxes_named.nd rfl (Or.inl rfl) (d_callN (ok_law_names T) (hr.mono (by decide)) rfl T.g_law_names T.F_law_names.kp (b_law_names T) takesD (da_cons (d_var 0) (da_cons (d_callB call_len_seq adq_len rfl T.n_len (by decide +kernel) (da_cons (d_var 2) da_nil)) da_nil))))
      (dss_cons (ds_set (i := 5) sc_law_boxes_named.nd rfl (Or.inl rfl) (d_callN (ok_law_laid T) (hr.mono (by decide)) rfl T.g_law_laid T.F_law_laid.kp (b_law_laid T) takesD (da_cons (d_var 3) (da_cons (d_var 2) (da_cons (d_callN (ok_law_sizes T) (hr.mono (by decide)) rfl T.g_law_sizes T.F_law_sizes.kp (b_law_sizes T) takesD (da_cons (d_var 0) (da_cons (d_callB call_len_seq adq_len rfl T.n_len (by decide +kernel) (da_cons (d_var 2) da_nil)) da_nil))) (da_cons (d_callN (ok_law_lean T) (hr.mono (by decide)) rfl T.g_law_lean T.F_law_lean.kp (b_law_lean T) takesD (da_cons (d_var 0) da_nil)) da_nil))))))
      (dss_one (ds_ret (d_tup (da_cons (d_var 3) (da_cons (d_callTy (call_dictP rfl) adq_dictP rfl T.n_dict (by decide +kernel) (da_cons (d_listZ rfl rfl T.n_list rfl T.n_zip (da_cons (d_var 4) (da_cons (d_var 5) da_nil))) da_nil)) da_nil)))))))))
  case hsp =>
    skip
    rintro ds cs Q Z ⟨p, m, rfl, m0, m1, hb, h⟩ _
    show (_ : WS) (finD Q Z) [some _, some _, none, none, none, none] cs
    walk_at "GO"
    intro ws ca hws hwl st1
    walk_at "GO"
    intro b cb hp hs hl0 ht0 st2
    walk_at "GO"
    intro ns cc hns st3
    walk_at "GO"
    rw [List.length_map]
    refine r_law_sizes hws.l0 (by have := hws.l1; omega) st3.bag ?_
    intro zs cd hz st4
    walk_at "GO"
    intro dn ce st5
    walk_at "GO"
    refine ⟨_, _, rfl, ?_⟩
    walk_at "GO"
    refine r_dictN hns.nd (by rw [List.length_map, laid_len b dn hz, hns.len, List.length_map]) ?_
    intro q hq
    walk_at "GO"
    exact h b ws zs dn ns _ hp hs hl0 ht0 hws hwl hz (by rw [List.length_map] at hns; exact hns) ((((st1.trans st2).trans st3).trans st4).trans st5) q hq
local macro_rules | `(tactic| walk_at "cl") => `(tactic| (first | ((with_reducible apply r_law_boxes_named); (walk_at "in"); (walk_at "in"); (walk_at "bg"))))
def sp_law_ends : DSp := fun ds cs P _ => ∃ l t w h : Rat, ds = [dB l t w h] ∧ Sz 1900 l ∧ Sz 1900 t ∧ Sz 1900 w ∧ Sz 1900 h ∧ P (.tup [dR l, dR (l + w), dR t, dR (t + h)]) cs
theorem r_law_ends {b : Bx} {cs : Cs} {P : DP} {Z : XZ} (hl : Sz 1900 b.l) (ht : Sz 1900 b.t) (hw : Sz 1900 b.w) (hh : Sz 1900 b.h) (h : P (.tup [dR b.l, dR (b.l + b.w), dR b.t, dR (b.t + b.h)]) cs) : sp_law_ends [b.d] cs P Z := ⟨b.l, b.t, b.w, b.h, rfl, hl, ht, hw, hh, h⟩
theorem sc_law_ends : FnScope ["_law_box"] ["_law_box"] (defScope s_law_ends) := ⟨rfl, rfl, rfl, by decide +kernel, rfl, by decide +kernel, by decide +kernel⟩
theorem ok_law_ends {P : Program} {w : World} {K : PySem.W.Frag} {mg : Str → Option Value} {base : Heap} (T : Txt K mg base) : FnOk P w K mg base (L2.CX P w) 4 (He.ga K "_law_ends") T.fd_law_ends ["_law_box"] (spL K 1 sp_law_ends) := by
  apply ok_def (k := 3) T.F_law_ends sc_law_ends
  case hb =>
    intro cdv A outer s H E hr
    exact (dss_one (ds_ret (d_tup (da_cons (d_sub_ix (d_var 0) d_int) (da_cons (d_callN (ok_law_plus T) (hr.mono (by decide)) rfl T.g_law_plus T.F_law_plus.kp (b_law_plus T) takesD (da_cons (d_sub_ix (d_var 0) d_int) (da_cons (d_sub_ix (d_var 0) d_int) da_nil))) (da_cons (d_sub_ix (d_var 0) d_int) (da_cons (d_callN (ok_law_plus T) (hr.mono (by decide)) rfl T.g_law_plus T.F_law_plus.kp (b_law_plus T) takesD (da_cons (d_sub_ix (d_var 0) d_int) (da_cons (d_sub_ix (d_var 0) d_int) da_nil))) da_nil)))))))
  case hsp =>
    skip
    rintro ds cs Q Z ⟨l, t, wd, hg, rfl, sl, st, sw, sh, h⟩ _
    show (_ : WS) (finD Q Z) [some _] cs
    unfold dB
    walk_at "go"
    refine ⟨l, wd, rfl, sl.mono (by decide), sw.mono (by decide), ?_⟩
    walk_at "go"
    refine ⟨t, hg, rfl, st.mono (by decide), sh.mono (by decide), ?_⟩
    walk_at "go"
    exact h
local macro_rules | `(tactic| walk_at "cl") => `(tactic| (first | ((with_reducible apply r_law_ends); (walk_at "sz"); (walk_at "sz"); (walk_at "sz"); (walk_at "sz"))))
def sp_need_named : DSp := fun ds cs P _ => ∃ (nb : NB) (x : Str), ds = [.dic (dicB nb), .str x] ∧ NbOk nb ∧ x ∈ nb.map (·.1) ∧ P .non cs
theorem r_need_named {nb : NB} {x : Str} {cs : Cs} {P : DP} {Z : XZ} (hn : NbOk nb) (hx : x ∈ nb.map (·.1)) (h : P .non cs) : sp_need_named [.dic (dicB nb), .str x] cs P Z := ⟨nb, x, rfl, hn, hx, h⟩
theorem sc_need_named : FnScope ["boxes", "name"] ["boxes", "name"] (defScope s_need_named) := ⟨rfl, rfl, rfl, by decide +kernel, rfl, by decide +kernel, by decide +kernel⟩
theorem ok_need_named {P : Program} {w : World} {K : PySem.W.Frag} {mg : Str → Option Value} {base : Heap} (T : Txt K mg base) : FnOk P w K mg base (L2.CX P w) 1 (He.ga K "need_named") T.fd_need_named ["boxes", "name"] (spL K 2 sp_need_named) := by
  apply ok_def (k := 0) T.F_need_named sc_need_named
  case hb =>
    intro cdv A outer s H E hr
    exact (dss_one (ds_if (dt_notinD hr.units (d_var 1) (d_var 0)) (dss_one ds_never) dss_nil))
  case hsp =>
    skip
    rintro ds cs Q Z ⟨nb, x, rfl, hn, hx, h⟩ _
    show (_ : WS) (finD Q Z) [some _, some _] cs
    walk_at "GO"
    rw [lk_bxOf hn.nd hx]
    refine r_isF rfl ?_
    walk_at "GO"
    exact h
local macro_rules | `(tactic| walk_at "cl") => `(tactic| (first | ((with_reducible apply r_need_named); (assumption); (walk_at "nm"))))
def sp_common : DSp := fun ds cs P _ => ∃ a b : Nat, ds = [.int (a : Int), .int (b : Int)] ∧ P (.int (Nat.gcd a b : Int)) cs
theorem sc_common : FnScope ["one", "other"] ["one", "other"] (defScope s_common) := ⟨rfl, rfl, rfl, by decide +kernel, rfl, by decide +kernel, by decide +kernel⟩
theorem ok_common {P : Program} {w : World} {K : PySem.W.Frag} {mg : Str → Option Value} {base : Heap} (T : Txt K mg base) : FnOk P w K mg base (L2.CX P w) 1 (He.ga K "common") T.fd_common ["one", "other"] (spL K 2 sp_common) := by
  apply ok_def (k := 0) T.F_common sc_common
  case hb =>
    intro cdv A outer s H E hr
    exact (dss_cons (ds_while passD (dt_ne hr.units (d_var 1) d_int) (dss_one (ds_par (i := 0) (j := 1) rfl sc_common.nd rfl rfl (by decide) rfl rfl (da_cons (d_var 1) (da_cons (d_mod (d_var 0) (d_var 1)) da_nil)))))
      (dss_one (ds_ret (d_var 0))))
  case hsp =>
    skip
    rintro ds cs Q Z ⟨a, b, rfl, h⟩ _
    show (_ : WS) (finD Q Z) [some _, some _] cs
    walk_at "go"
    refine r_while (fun m ρ cs' => ∃ a' b' : Nat, ρ = [some (.int (a' : Int)), some (.int (b' : Int))] ∧ m = b' ∧ cs' = cs ∧ Nat.gcd a' b' = Nat.gcd a b) ⟨b, a, b, rfl, rfl, rfl, rfl⟩ ?_
    rintro m ρ cs' N ⟨a', b', rfl, hm, rfl, hg⟩ hN
    walk_at "go"
    refine ⟨fun hk => ?_, fun hk => ?_⟩
    · have hb : (b' : Int) ≠ 0 := ndecT hk
      have hb0 : (0 : Int) < b' := by omega
      walk_at "go"
      refine hN (a' % b') _ _ (by rw [hm]; exact Nat.mod_lt _ (by omega)) ⟨b', a' % b', rfl, rfl, rfl, ?_⟩
      rw [← hg, Nat.gcd_comm b', ← Nat.gcd_rec, Nat.gcd_comm]
    · have hb : (b' : Int) = 0 := ndecF hk
      have hb0 : b' = 0 := by omega
      rw [hb0]
      walk_at "go"
      rw [← hg, hb0, Nat.gcd_zero_right] at h
      exact h
def sp_part : DSp := fun ds cs P _ => ∃ a b : Int, ds = [.int a, .int b] ∧ b ≠ 0 ∧ b.natAbs < 2 ^ 9000 ∧ P (dR (Rat.divInt a b)) cs
theorem r_part {a b : Int} {cs : Cs} {P : DP} {Z : XZ} (b0 : b ≠ 0) (hb : b.natAbs < 2 ^ 9000) (h : P (dR (Rat.divInt a b)) cs) : sp_part [.int a, .int b] cs P Z := ⟨a, b, rfl, b0, hb, h⟩
theorem sc_part : FnScope ["above", "below", "by"] ["above", "below"] (defScope s_part) := ⟨rfl, rfl, rfl, by decide +kernel, rfl, by decide +kernel, by decide +kernel⟩
theorem ok_part {P : Program} {w : World} {K : PySem.W.Frag} {mg : Str → Option Value} {base : Heap} (T : Txt K mg base) : FnOk P w K mg base (L2.CX P w) 2 (He.ga K "part") T.fd_part ["above", "below"] (spL K 2 sp_part) := by
  apply ok_def (k := 1) T.F_part sc_part
  case hb =>
    intro cdv A outer s H E hr
    exact (dss_cons (ds_if (dt_eq hr.units (d_var 1) d_int) (dss_one ds_never) dss_nil)
      (dss_cons (ds_if (dt_lt (d_var 1) d_int) (dss_one (ds_par (i := 0) (j := 1) rfl sc_part.nd rfl rfl (by decide) rfl rfl (da_cons (d_neg (d_var 0)) (da_cons (d_neg (d_var 1)) da_nil)))) dss_nil)
      (dss_cons (ds_set (i := 2) sc_part.nd rfl (Or.inl rfl) (d_callN (ok_common T) (hr.mono (by decide)) rfl T.g_common T.F_common.kp (b_common T) takesD (da_cons (d_callB call_abs adq_abs rfl T.n_abs (by decide +kernel) (da_cons (d_var 0) da_nil)) (da_cons (d_var 1) da_nil))))
      (dss_one (ds_ret (d_tup (da_cons (d_fdiv (d_var 0) (d_var 2)) (da_cons (d_fdiv (d_var 1) (d_var 2)) da_nil))))))))
  case hsp =>
    skip
    rintro ds cs Q Z ⟨a, b, rfl, hb, hs, h⟩ _
    show (_ : WS) (finD Q Z) [some _, some _, none] cs
    walk_at "go"
    refine ⟨fun hk => absurd (decT hk) hb, fun hk => ?_⟩
    walk_at "g1"
    refine r_key (N := fun ρ' cs' => ∃ a' b' : Int, ρ' = [some (.int a'), some (.int b'), none] ∧ cs' = cs ∧ 0 < b' ∧ b'.natAbs < 2 ^ 9000 ∧ Rat.divInt a' b' = Rat.divInt a b) ?_ (fun nx key => ?_)
    · rintro ρ' cs' ⟨a', b', rfl, rfl, hp, hz, he⟩
      walk_at "go"
      rw [abs_nat]
      have hn : b' = (b'.natAbs : Int) := by omega
      refine ⟨a'.natAbs, b'.natAbs, by rw [← hn], ?_⟩
      have g := gcd_ok (a := a'.natAbs) (b := b'.natAbs) (by omega) hz
      obtain ⟨e1, e2⟩ := part_pos a' b' hp
      walk_at "go"
      show Q (.tup [.int (a' / _), .int (b' / _)]) cs'
      rw [e1, e2, he]
      exact h
    · walk_at "go"
      refine ⟨fun hk2 => ?_, fun hk2 => ?_⟩
      · have hlt := decT hk2
        walk_at "go"
        exact key _ _ ⟨-a, -b, rfl, rfl, by omega, by rw [Int.natAbs_neg]; exact hs, part_neg a b⟩
      · have hlt := decF hk2
        walk_at "go"
        exact key _ _ ⟨a, b, rfl, rfl, by omega, hs, rfl⟩
local macro_rules | `(tactic| walk_at "cl") => `(tactic| (first | ((with_reducible apply r_part); (walk_at "in"); (walk_at "p9"))))
def sp_plus : DSp := fun ds cs P _ => ∃ x y : Rat, ds = [dR x, dR y] ∧ Sz 4000 x ∧ Sz 4000 y ∧ P (dR (x + y)) cs
theorem r_plus {x y : Rat} {cs : Cs} {P : DP} {Z : XZ} (hx : Sz 4000 x) (hy : Sz 4000 y) (h : P (dR (x + y)) cs) : sp_plus [dR x, dR y] cs P Z := ⟨x, y, rfl, hx, hy, h⟩
theorem sc_plus : FnScope ["one", "other"] ["one", "other"] (defScope s_plus) := ⟨rfl, rfl, rfl, by decide +kernel, rfl, by decide +kernel, by decide +kernel⟩
theorem ok_plus {P : Program} {w : World} {K : PySem.W.Frag} {mg : Str → Option Value} {base : Heap} (T : Txt K mg base) : FnOk P w K mg base (L2.CX P w) 3 (He.ga K "plus") T.fd_plus ["one", "other"] (spL K 2 sp_plus) := by
  apply ok_def (k := 2) T.F_plus sc_plus
  case hb =>
    intro cdv A outer s H E hr
    exact (dss_one (ds_ret (d_callN (ok_part T) (hr.mono (by decide)) rfl T.g_part T.F_part.kp (b_part T) takesD (da_cons (d_add (d_mul (d_sub_ix (d_var 0) d_int) (d_sub_ix (d_var 1) d_int)) (d_mul (d_sub_ix (d_var 1) d_int) (d_sub_ix (d_var 0) d_int))) (da_cons (d_mul (d_sub_ix (d_var 0) d_int) (d_sub_ix (d_var 1) d_int)) da_nil)))))
  case hsp =>
    skip
    rintro ds cs Q Z ⟨x, y, rfl, hx, hy, h⟩ _
    show (_ : WS) (finD Q Z) [some _, some _] cs
    have m1 := hx.nd hy
    have m2 := hy.nd hx
    have m3 := hx.dd hy
    have m4 := hx.nn hy
    walk_at "go"
    exact r_part (Int.mul_ne_zero (den_ne x) (den_ne y)) (dd_ok hx hy (by decide)) (by rw [divInt_add]; exact h)
local macro_rules | `(tactic| walk_at "cl") => `(tactic| (first | ((with_reducible apply r_plus); (walk_at "sz"); (walk_at "sz"))))
def sp_ends : DSp := fun ds cs P _ => ∃ l t w h : Rat, ds = [dB l t w h] ∧ Sz 1900 l ∧ Sz 1900 t ∧ Sz 1900 w ∧ Sz 1900 h ∧ P (.tup [dR l, dR (l + w), dR t, dR (t + h)]) cs
theorem r_ends {b : Bx} {cs : Cs} {P : DP} {Z : XZ} (hl : Sz 1900 b.l) (ht : Sz 1900 b.t) (hw : Sz 1900 b.w) (hh : Sz 1900 b.h) (h : P (.tup [dR b.l, dR (b.l + b.w), dR b.t, dR (b.t + b.h)]) cs) : sp_ends [b.d] cs P Z := ⟨b.l, b.t, b.w, b.h, rfl, hl, ht, hw, hh, h⟩
theorem sc_ends : FnScope ["box", "left", "top", "wide", "high"] ["box"] (defScope s_ends) := ⟨rfl, rfl, rfl, by decide +kernel, rfl, by decide +kernel, by decide +kernel⟩
theorem ok_ends {P : Program} {w : World} {K : PySem.W.Frag} {mg : Str → Option Value} {base : Heap} (T : Txt K mg base) : FnOk P w K mg base (L2.CX P w) 4 (He.ga K "ends") T.fd_ends ["box"] (spL K 1 sp_ends) := by
  apply ok_def (k := 3) T.F_ends sc_ends
  case hb =>
    intro cdv A outer s H E hr
    exact (dss_cons (ds_asg (d_var 0) (dg_tup (n := 4) rfl (dgs_cons (dg_name (i := 1) sc_ends.nd rfl (Or.inl rfl)) (dgs_cons (dg_name (i := 2) sc_ends.nd rfl (Or.inl rfl)) (dgs_cons (dg_name (i := 3) sc_ends.nd rfl (Or.inl rfl)) (dgs_cons (dg_name (i := 4) sc_ends.nd rfl (Or.inl rfl)) dgs_nil))))))
      (dss_one (ds_ret (d_tup (da_cons (d_var 1) (da_cons (d_callN (ok_plus T) (hr.mono (by decide)) rfl T.g_plus T.F_plus.kp (b_plus T) takesD (da_cons (d_var 1) (da_cons (d_var 3) da_nil))) (da_cons (d_var 2) (da_cons (d_callN (ok_plus T) (hr.mono (by decide)) rfl T.g_plus T.F_plus.kp (b_plus T) takesD (da_cons (d_var 2) (da_cons (d_var 4) da_nil))) da_nil))))))))
  case hsp =>
    skip
    rintro ds cs Q Z ⟨l, t, wd, hg, rfl, sl, st, sw, sh, h⟩ _
    show (_ : WS) (finD Q Z) [some _, none, none, none, none] cs
    unfold dB
    walk_at "go"
    refine ⟨l, wd, rfl, sl.mono (by decide), sw.mono (by decide), ?_⟩
    walk_at "go"
    refine ⟨t, hg, rfl, st.mono (by decide), sh.mono (by decide), ?_⟩
    walk_at "go"
    exact h
local macro_rules | `(tactic| walk_at "cl") => `(tactic| (first | ((with_reducible apply r_ends); (walk_at "sz"); (walk_at "sz"); (walk_at "sz"); (walk_at "sz"))))
def sp_less : DSp := fun ds cs P _ => ∃ x y : Rat, ds = [dR x, dR y] ∧ Sz 4000 x ∧ Sz 4000 y ∧ P (.bl (decide (x < y))) cs
theorem r_less {x y : Rat} {cs : Cs} {P : DP} {Z : XZ} (hx : Sz 4000 x) (hy : Sz 4000 y) (h : P (.bl (decide (x < y))) cs) : sp_less [dR x, dR y] cs P Z := ⟨x, y, rfl, hx, hy, h⟩
theorem sc_less : FnScope ["one", "other"] ["one", "other"] (defScope s_less) := ⟨rfl, rfl, rfl, by decide +kernel, rfl, by decide +kernel, by decide +kernel⟩
theorem ok_less {P : Program} {w : World} {K : PySem.W.Frag} {mg : Str → Option Value} {base : Heap} (T : Txt K mg base) : FnOk P w K mg base (L2.CX P w) 1 (He.ga K "less") T.fd_less ["one", "other"] (spL K 2 sp_less) := by
  apply ok_def (k := 0) T.F_less sc_less
  case hb =>
    intro cdv A outer s H E hr
    exact (dss_one (ds_ret (d_lt (d_mul (d_sub_ix (d_var 0) d_int) (d_sub_ix (d_var 1) d_int)) (d_mul (d_sub_ix (d_var 1) d_int) (d_sub_ix (d_var 0) d_int)))))
  case hsp =>
    skip
    rintro ds cs Q Z ⟨x, y, rfl, hx, hy, h⟩ _
    show (_ : WS) (finD Q Z) [some _, some _] cs
    have m1 := hx.nd hy
    have m2 := hy.nd hx
    walk_at "go"
    have e : decide (x < y) = decide (x.num * (y.den : Int) < y.num * (x.den : Int)) := decide_eq_decide.mpr (Rat.lt_iff x y)
    rw [e] at h
    exact h
local macro_rules | `(tactic| walk_at "cl") => `(tactic| (first | ((with_reducible apply r_less); (walk_at "sz"); (walk_at "sz"))))
def sp_minus : DSp := fun ds cs P _ => ∃ x y : Rat, ds = [dR x, dR y] ∧ Sz 4000 x ∧ Sz 4000 y ∧ P (dR (x - y)) cs
theorem r_minus {x y : Rat} {cs : Cs} {P : DP} {Z : XZ} (hx : Sz 4000 x) (hy : Sz 4000 y) (h : P (dR (x - y)) cs) : sp_minus [dR x, dR y] cs P Z := ⟨x, y, rfl, hx, hy, h⟩
theorem sc_minus : FnScope ["one", "other"] ["one", "other"] (defScope s_minus) := ⟨rfl, rfl, rfl, by decide +kernel, rfl, by decide +kernel, by decide +kernel⟩
theorem ok_minus {P : Program} {w : World} {K : PySem.W.Frag} {mg : Str → Option Value} {base : Heap} (T : Txt K mg base) : FnOk P w K mg base (L2.CX P w) 3 (He.ga K "minus") T.fd_minus ["one", "other"] (spL K 2 sp_minus) := by
  apply ok_def (k := 2) T.F_minus sc_minus
  case hb =>
    intro cdv A outer s H E hr
    exact (dss_one (ds_ret (d_callN (ok_part T) (hr.mono (by decide)) rfl T.g_part T.F_part.kp (b_part T) takesD (da_cons (d_sub (d_mul (d_sub_ix (d_var 0) d_int) (d_sub_ix (d_var 1) d_int)) (d_mul (d_sub_ix (d_var 1) d_int) (d_sub_ix (d_var 0) d_int))) (da_cons (d_mul (d_sub_ix (d_var 0) d_int) (d_sub_ix (d_var 1) d_int)) da_nil)))))
  case hsp =>
    skip
    rintro ds cs Q Z ⟨x, y, rfl, hx, hy, h⟩ _
    show (_ : WS) (finD Q Z) [some _, some _] cs
    have m1 := hx.nd hy
    have m2 := hy.nd hx
    have m3 := hx.dd hy
    have m4 := hx.nn hy
    walk_at "go"
    exact r_part (Int.mul_ne_zero (den_ne x) (den_ne y)) (dd_ok hx hy (by decide)) (by rw [divInt_sub]; exact h)
local macro_rules | `(tactic| walk_at "cl") => `(tactic| (first | ((with_reducible apply r_minus); (walk_at "sz"); (walk_at "sz"))))
def sp_overlap : DSp := fun ds cs P _ => ∃ a b c d : Rat, ds = [dR a, dR b, dR c, dR d] ∧ Sz 4000 a ∧ Sz 4000 b ∧ Sz 4000 c ∧ Sz 4000 d ∧ P (dR (ovR a b c d)) cs
theorem r_overlap {a b c d : Rat} {cs : Cs} {P : DP} {Z : XZ} (ha : Sz 4000 a) (hb : Sz 4000 b) (hc : Sz 4000 c) (hd : Sz 4000 d) (h : P (dR (ovR a b c d)) cs) : sp_overlap [dR a, dR b, dR c, dR d] cs P Z := ⟨a, b, c, d, rfl, ha, hb, hc, hd, h⟩
theorem sc_overlap : FnScope ["low", "high", "start", "end", "begin", "stop"] ["low", "high", "start", "end"] (defScope s_overlap) := ⟨rfl, rfl, rfl, by decide +kernel, rfl, by decide +kernel, by decide +kernel⟩
theorem ok_overlap {P : Program} {w : World} {K : PySem.W.Frag} {mg : Str → Option Value} {base : Heap} (T : Txt K mg base) : FnOk P w K mg base (L2.CX P w) 4 (He.ga K "overlap") T.fd_overlap ["low", "high", "start", "end"] (spL K 4 sp_overlap) := by
  apply ok_def (k := 3) T.F_overlap sc_overlap
  case hb =>
    intro cdv A outer s H E hr
    exact (dss_cons (ds_set (i := 4) sc_overlap.nd rfl (Or.inl rfl) (d_if (dt_val (d_callN (ok_less T) (hr.mono (by decide)) rfl T.g_less T.F_less.kp (b_less T) takesD (da_cons (d_var 0) (da_cons (d_var 2) da_nil)))) (d_var 2) (d_var 0)))
      (dss_cons (ds_set (i := 5) sc_overlap.nd rfl (Or.inl rfl) (d_if (dt_val (d_callN (ok_less T) (hr.mono (by decide)) rfl T.g_less T.F_less.kp (b_less T) takesD (da_cons (d_var 1) (da_cons (d_var 3) da_nil)))) (d_var 1) (d_var 3)))
      (dss_one (ds_ret (d_if (dt_val (d_callN (ok_less T) (hr.mono (by decide)) rfl T.g_less T.F_less.kp (b_less T) takesD (da_cons (d_var 4) (da_cons (d_var 5) da_nil)))) (d_callN (ok_minus T) (hr.mono (by decide)) rfl T.g_minus T.F_minus.kp (b_minus T) takesD (da_cons (d_var 5) (da_cons (d_var 4) da_nil))) (show DE _ _ _ (wC (.tup [.int 0, .int 1])) from d_gtup (vs := [.int 0, .int 1]) rfl T.g_NOUGHT T.k_NOUGHT))))))
  case hsp =>
    skip
    rintro ds cs Q Z ⟨a, b, c, d, rfl, ha, hb, hc, hd, h⟩ _
    show (_ : WS) (finD Q Z) [some _, some _, some _, some _, none, none] cs
    walk_at "GO"
    unfold ovR at h
    by_cases h1 : a < c
    case' pos => rw [if_pos h1] at h; refine r_pos h1 ?_
    case' neg => rw [if_neg h1] at h; refine r_neg_ h1 ?_
    all_goals
      walk_at "GO"
      by_cases h2 : b < d
      case' pos => rw [if_pos h2] at h; refine r_pos h2 ?_
      case' neg => rw [if_neg h2] at h; refine r_neg_ h2 ?_
      all_goals
        walk_at "GO"
        refine ⟨fun h3 => ?_, fun h3 => ?_⟩
        · have h3 := decT h3
          rw [if_pos h3] at h
          walk_at "GO"
          exact h
        · have h3 := decF h3
          rw [if_neg h3] at h
          walk_at "GO"
          exact h
local macro_rules | `(tactic| walk_at "cl") => `(tactic| (first | ((with_reducible apply r_overlap); (walk_at "sz"); (walk_at "sz"); (walk_at "sz"); (walk_at "sz"))))
def sp_edge_between : DSp := fun ds cs P _ => ∃ b c : Bx, ds = [b.d, c.d] ∧ b.Sz 1900 ∧ c.Sz 1900 ∧ P (dR (edgeR b c)) cs
theorem r_edge_between {b c : Bx} {cs : Cs} {P : DP} {Z : XZ} (hb : b.Sz 1900) (hc : c.Sz 1900) (h : P (dR (edgeR b c)) cs) : sp_edge_between [b.d, c.d] cs P Z := ⟨b, c, rfl, hb, hc, h⟩
theorem sc_edge_between : FnScope ["one", "other", "left", "right", "top", "bottom", "start", "stop", "upper", "lower"] ["one", "other"] (defScope s_edge_between) := ⟨rfl, rfl, rfl, by decide +kernel, rfl, by decide +kernel, by decide +kernel⟩
theorem ok_edge_between {P : Program} {w : World} {K : PySem.W.Frag} {mg : Str → Option Value} {base : Heap} (T : Txt K mg base) : FnOk P w K mg base (L2.CX P w) 5 (He.ga K "edge_between") T.fd_edge_between ["one", "other"] (spL K 2 sp_edge_between) := by
  apply ok_def (k := 4) T.F_edge_between sc_edge_between
  case hb =>
    intro cdv A outer s H E hr
    exact (dss_cons (ds_asg (d_callN (ok_ends T) (hr.mono (by decide)) rfl T.g_ends T.F_ends.kp (b_ends T) takesD (da_cons (d_var 0) da_nil)) (dg_tup (n := 4) rfl (dgs_cons (dg_name (i := 2) sc_edge_between.nd rfl (Or.inl rfl)) (dgs_cons (dg_name (i := 3) sc_edge_between.nd rfl (Or.inl rfl)) (dgs_cons (dg_name (i := 4) sc_edge_between.nd rfl (Or.inl rfl)) (dgs_cons (dg_name (i := 5) sc_edge_between.nd rfl (Or.inl rfl)) dgs_nil))))))
      (dss_cons (ds_asg (d_callN (ok_ends T) (hr.mono (by decide)) rfl T.g_ends T.F_ends.kp (b_ends T) takesD (da_cons (d_var 1) da_nil)) (dg_tup (n := 4) rfl (dgs_cons (dg_name (i := 6) sc_edge_between.nd rfl (Or.inl rfl)) (dgs_cons (dg_name (i := 7) sc_edge_between.nd rfl (Or.inl rfl)) (dgs_cons (dg_name (i := 8) sc_edge_between.nd rfl (Or.inl rfl)) (dgs_cons (dg_name (i := 9) sc_edge_between.nd rfl (Or.inl rfl)) dgs_nil))))))
      (dss_cons (ds_if (dt_w (dw_or (dt_eq hr.units (d_var 7) (d_var 2)) (dw_or1 (dt_eq hr.units (d_var 3) (d_var 6))))) (dss_one (ds_ret (d_callN (ok_overlap T) (hr.mono (by decide)) rfl T.g_overlap T.F_overlap.kp (b_overlap T) takesD (da_cons (d_var 4) (da_cons (d_var 5) (da_cons (d_var 8) (da_cons (d_var 9) da_nil))))))) dss_nil)
      (dss_cons (ds_if (dt_w (dw_or (dt_eq hr.units (d_var 9) (d_var 4)) (dw_or1 (dt_eq hr.units (d_var 5) (d_var 8))))) (dss_one (ds_ret (d_callN (ok_overlap T) (hr.mono (by decide)) rfl T.g_overlap T.F_overlap.kp (b_overlap T) takesD (da_cons (d_var 2) (da_cons (d_var 3) (da_cons (d_var 6) (da_cons (d_var 7) da_nil))))))) dss_nil)
      (dss_one (ds_ret (show DE _ _ _ (wC (.tup [.int 0, .int 1])) from d_gtup (vs := [.int 0, .int 1]) rfl T.g_NOUGHT T.k_NOUGHT)))))))
  case hsp =>
    skip
    rintro ds cs Q Z ⟨b, c, rfl, hb, hc, h⟩ _
    have s1 := hb.l
    have s2 := hb.t
    have s3 := hb.w
    have s4 := hb.h
    have t1 := hc.l
    have t2 := hc.t
    have t3 := hc.w
    have t4 := hc.h
    unfold edgeR at h
    show (_ : WS) (finD Q Z) [some _, some _, none, none, none, none, none, none, none, none] cs
    walk_at "GO"
    by_cases h1 : c.l + c.w = b.l
    · refine r_pos h1 ?_
      rw [if_pos (.inl h1)] at h
      walk_at "GO"
      exact h
    refine r_neg_ h1 ?_
    walk_at "GO"
    by_cases h2 : b.l + b.w = c.l
    · refine r_pos h2 ?_
      rw [if_pos (.inr h2)] at h
      walk_at "GO"
      exact h
    refine r_neg_ h2 ?_
    rw [if_neg (fun z => z.elim h1 h2)] at h
    walk_at "GO"
    by_cases h3 : c.t + c.h = b.t
    · refine r_pos h3 ?_
      rw [if_pos (.inl h3)] at h
      walk_at "GO"
      exact h
    refine r_neg_ h3 ?_
    walk_at "GO"
    by_cases h4 : b.t + b.h = c.t
    · refine r_pos h4 ?_
      rw [if_pos (.inr h4)] at h
      walk_at "GO"
      exact h
    refine r_neg_ h4 ?_
    rw [if_neg (fun z => z.elim h3 h4)] at h
    walk_at "GO"
    exact h
local macro_rules | `(tactic| walk_at "cl") => `(tactic| (first | ((with_reducible apply r_edge_between); (walk_at "sz"); (walk_at "sz"))))
def sp_near : DSp := fun ds cs P _ => ∃ (nb : NB) (x : Str), ds = [.dic (dicB nb), .str x] ∧ NbOk nb ∧ x ∈ nb.map (·.1) ∧ ∀ p, p ∉ adr cs → P (.opq (.ref p)) ((p, .lst ((nearB nb x).map prR)) :: cs)
theorem r_near {nb : NB} {x : Str} {cs : Cs} {P : DP} {Z : XZ} (hn : NbOk nb) (hx : x ∈ nb.map (·.1)) (h : ∀ p, p ∉ adr cs → P (.opq (.ref p)) ((p, .lst ((nearB nb x).map prR)) :: cs)) : sp_near [.dic (dicB nb), .str x] cs P Z := ⟨nb, x, rfl, hn, hx, h⟩
theorem sc_near : FnScope ["boxes", "name", "found", "other", "length"] ["boxes", "name"] (defScope s_near) := ⟨rfl, rfl, rfl, by decide +kernel, rfl, by decide +kernel, by decide +kernel⟩
theorem ok_near {P : Program} {w : World} {K : PySem.W.Frag} {mg : Str → Option Value} {base : Heap} (T : Txt K mg base) : FnOk P w K mg base (L2.CX P w) 6 (He.ga K "near") T.fd_near ["boxes", "name"] (spL K 2 sp_near) := by
  apply ok_def (k := 5) T.F_near sc_near
  case hb =>
    intro cdv A outer s H E hr
    exact (dss_cons (ds_setLc (i := 2) rfl sc_near.nd rfl rfl (sw_true rfl rfl rfl (by decide +kernel)) (di_list (d_callB (cr_sortDS rfl) adq_sortDS rfl T.n_sorted (by decide +kernel) (da_cons (d_var 0) da_nil))) (blkOk_by (own := [("other", 3)]) (N := ["boxes", "name", "found", "other", "length"]) (sc := defScope s_near) (by decide +kernel)) (gok_name (by decide)) (fun _ _ _ _ _ => (pg_name (i := 3) sc_near.nd rfl (Or.inl rfl))) (fun _ _ _ _ _ => (dts_one (dt_ne hr.units (d_var 3) (d_var 1)))) (fun _ _ _ _ _ => (d_tup (da_cons (d_var 3) (da_cons (d_callN (ok_edge_between T) (hr.mono (by decide)) rfl T.g_edge_between T.F_edge_between.kp (b_edge_between T) takes0 (da_cons (d_getD hr.units (d_var 0) (d_var 1)) (da_cons (d_getD hr.units (d_var 0) (d_var 3)) da_nil))) da_nil)))))
      (dss_one (ds_ret (d_lcM rfl sc_near.nd (di_list (d_var 2)) (blkOk_by (own := [("other", 3), ("length", 4)]) (N := ["boxes", "name", "found", "other", "length"]) (sc := defScope s_near) (by decide +kernel)) (gok_two (by decide) (by decide)) (fun _ _ _ _ _ => (pg_tup (n := 2) rfl (pgs_cons (pg_name (i := 3) sc_near.nd rfl (Or.inl rfl)) (pgs_cons (pg_name (i := 4) sc_near.nd rfl (Or.inl rfl)) pgs_nil)))) (fun _ _ _ _ _ => (dts_one (dt_gt (d_sub_ix (d_var 4) d_int) d_int))) (fun _ _ _ _ _ => (d_tup (da_cons (d_var 3) (da_cons (d_var 4) da_nil))))))))
  case hsp =>
    skip
    rintro ds cs Q Z ⟨nb, x, rfl, hn, hx, h⟩ _
    have hbx : ∀ y, y ∈ nb.map (·.1) → (bxOf nb y).Sz 1900 := fun y hy => (hn.sz _ (mem_bx hn.nd hy)).mono (by decide)
    show (_ : WS) (finD Q Z) [some _, some _, none, none, none] cs
    walk_at "GO"
    refine r_sortDS (dicB_keys nb) (by rw [List.length_map]; have := hn.len; omega) ?_
    walk_at "GO"
    have hln : (namesB nb).length = nb.length := by unfold namesB; rw [sortN_len, List.length_map]
    refine ⟨by rw [List.length_map]; show (namesB nb).length ≤ _; have := hn.len; omega, ?_⟩
    refine r_cfmE (l := namesB nb) (g := D.str) rfl (fun y => decide (y ≠ x)) (fun y => prR (y, edgeR (bxOf nb x) (bxOf nb y))) (fun y N N' hm n1 n2 => ?_) ?_
    · have hy : y ∈ nb.map (·.1) := namesB_mem.mp hm
      have h1 := hbx x hx
      have h2 := hbx y hy
      walk_at "GO"
      refine ⟨fun q1 => ?_, fun q1 => n2 (decide_eq_false (fun z => z (ndecF q1)))⟩
      walk_at "GO"
      refine r_getKS (lk_bxOf hn.nd hx) ?_
      walk_at "GO"
      refine r_getKS (lk_bxOf hn.nd hy) ?_
      walk_at "GO"
      exact n1 (decide_eq_true (ndecT q1))
    walk_at "GO"
    refine ⟨by rw [List.length_map]; have := List.length_filter_le (fun y => decide (y ≠ x)) (namesB nb); have := hn.len; omega, ?_⟩
    refine r_cfmE (l := nearAll nb x) (g := prR) (by unfold nearAll; rw [List.map_map]; rfl) (fun q => decide (0 < q.2)) prR (fun q N N' hm n1 n2 => ?_) ?_
    · unfold prR
      walk_at "GO"
      rw [show decide ((0 : Int) < q.2.num) = decide (0 < q.2) from posD_dR q.2]
      refine ⟨fun q1 => ?_, fun q1 => n2 q1⟩
      have n3 := n1 q1
      unfold prR at n3
      walk_at "GO"
      exact n3
    exact fun p hp => h p hp
local macro_rules | `(tactic| walk_at "cl") => `(tactic| (first | ((with_reducible apply r_near); (assumption); (walk_at "nm"))))
def sp_way : DSp := fun ds cs P _ => ∃ (nb : NB) (x y : Str), ds = [.dic (dicB nb), .str x, .str y] ∧ NbOk nb ∧ x ∈ nb.map (·.1) ∧ y ∈ nb.map (·.1) ∧ ((∀ r, ¬ Wk (nbN nb) x r y) → P .non cs) ∧ ∀ r, FstW leS (nbN nb) x y r → P (.lst ((x :: r).map D.str)) cs
theorem r_way {nb : NB} {x y : Str} {cs : Cs} {P : DP} {Z : XZ} (hn : NbOk nb) (hx : x ∈ nb.map (·.1)) (hy : y ∈ nb.map (·.1)) (h0 : (∀ r, ¬ Wk (nbN nb) x r y) → P .non cs) (h : ∀ r, FstW leS (nbN nb) x y r → P (.lst ((x :: r).map D.str)) cs) : sp_way [.dic (dicB nb), .str x, .str y] cs P Z := ⟨nb, x, y, rfl, hn, hx, hy, h0, h⟩
theorem sc_way : FnScope ["boxes", "one", "other", "beside", "there", "length", "name", "steps", "waiting", "later", "found", "here"] ["boxes", "one", "other"] (defScope s_way) := ⟨rfl, rfl, rfl, by decide +kernel, rfl, by decide +kernel, by decide +kernel⟩
theorem ok_way {P : Program} {w : World} {K : PySem.W.Frag} {mg : Str → Option Value} {base : Heap} (T : Txt K mg base) : FnOk P w K mg base (L2.CX P w) 7 (He.ga K "way") T.fd_way ["boxes", "one", "other"] (spL K 3 sp_way) := by
  apply ok_def (k := 6) T.F_way sc_way
  case hb =>
    intro cdv A outer s H E hr
    exact (dss_cons (ds_expr (d_callN (ok_need_named T) (hr.mono (by decide)) rfl T.g_need_named T.F_need_named.kp (b_need_named T) takesD (da_cons (d_var 0) (da_cons (d_var 1) da_nil))))
      (dss_cons (ds_expr (d_callN (ok_need_named T) (hr.mono (by decide)) rfl T.g_need_named T.F_need_named.kp (b_need_named T) takesD (da_cons (d_var 0) (da_cons (d_var 2) da_nil))))
      (dss_cons (ds_lockA 3 (ds_setDc (i := 3) rfl sc_way.nd rfl rfl (swD_true rfl rfl rfl (by decide +kernel)) (di_keys (d_var 0)) (blkOk_by (own := [("name", 6)]) (N := ["boxes", "one", "other", "beside", "there", "length", "name", "steps", "waiting", "later", "found", "here"]) (sc := defScope s_way) (by decide +kernel)) (gok_name (by decide)) (fun _ _ _ _ _ => (pg_name (i := 6) sc_way.nd rfl (Or.inl rfl))) (fun _ _ _ _ _ => dts_nil) (fun _ _ _ _ _ => (d_var 6)) (fun _ _ _ _ _ => (d_lc rfl sc_way.nd (di_list (d_frz (d_callN (ok_near T) (hr.mono (by decide)) rfl T.g_near T.F_near.kp (b_near T) takes0 (da_cons (d_var 0) (da_cons (d_var 6) da_nil))))) (blkOk_by (own := [("there", 4), ("length", 5)]) (N := ["boxes", "one", "other", "beside", "there", "length", "name", "steps", "waiting", "later", "found", "here"]) (sc := _) (by kernel_rfl)) (gok_two (by decide) (by decide)) (fun _ _ _ _ _ => (pg_tup (n := 2) rfl (pgs_cons (pg_name (i := 4) sc_way.nd rfl (Or.inl rfl)) (pgs_cons (pg_name (i := 5) sc_way.nd rfl (Or.inl rfl)) pgs_nil)))) (fun _ _ _ _ _ => dts_nil) (fun _ _ _ _ _ => (d_var 4))))))
      (dss_cons (ds_set (i := 7) sc_way.nd rfl (Or.inr rfl) (d_oneK (d_var 2) d_int))
      (dss_cons (ds_set (i := 8) sc_way.nd rfl (Or.inl rfl) (d_lst (da_cons (d_var 2) da_nil)))
      (dss_cons (ds_while passD (dt_ne hr.units (d_var 8) (d_lst da_nil)) (dss_cons (ds_asg (d_var 8) (dg_star rfl (dg_name (i := 6) sc_way.nd rfl (Or.inr rfl)) (dg_name (i := 8) sc_way.nd rfl (Or.inl rfl))))
      (dss_cons (ds_setLc (i := 9) rfl sc_way.nd rfl rfl (sw_true rfl rfl rfl (by decide +kernel)) (di_list (d_getD hr.units (d_var 3) (d_var 6))) (blkOk_by (own := [("there", 4)]) (N := ["boxes", "one", "other", "beside", "there", "length", "name", "steps", "waiting", "later", "found", "here"]) (sc := defScope s_way) (by decide +kernel)) (gok_name (by decide)) (fun _ _ _ _ _ => (pg_name (i := 4) sc_way.nd rfl (Or.inl rfl))) (fun _ _ _ _ _ => (dts_one (dt_notinD hr.units (d_var 4) (d_var 7)))) (fun _ _ _ _ _ => (d_var 4)))
      (dss_cons (ds_expr (d_update (d_var 7) (da_cons (d_lockD (d_dcK rfl sc_way.nd (di_list (d_var 9)) (blkOk_by (own := [("there", 4)]) (N := ["boxes", "one", "other", "beside", "there", "length", "name", "steps", "waiting", "later", "found", "here"]) (sc := defScope s_way) (by decide +kernel)) (gok_name (by decide)) (fun _ _ _ _ _ => (pg_name (i := 4) sc_way.nd rfl (Or.inl rfl))) (fun _ _ _ _ _ => dts_nil) (fun _ _ _ _ _ => (d_var 4)) (fun _ _ _ _ _ => (d_add (d_getD hr.units (d_var 7) (d_var 6)) d_int)))) da_nil)))
      (dss_one (ds_set (i := 8) sc_way.nd rfl (Or.inl rfl) (d_catL (d_var 8) (d_var 9))))))))
      (dss_cons (ds_if (dt_notinD hr.units (d_var 1) (d_var 7)) (dss_one (ds_ret (d_gone d_non))) dss_nil)
      (dss_cons (ds_set (i := 10) sc_way.nd rfl (Or.inl rfl) (d_lstM (da_cons (d_var 1) da_nil)))
      (dss_cons (ds_while passD (dt_ne hr.units (d_ixM (d_var 10) (d_neg d_int)) (d_var 2)) (dss_cons (ds_set (i := 11) sc_way.nd rfl (Or.inr rfl) (d_ixM (d_var 10) (d_neg d_int)))
      (dss_one (ds_expr (d_append (d_var 10) (da_cons (d_sub_ix (d_lc rfl sc_way.nd (di_list (d_getD hr.units (d_var 3) (d_var 11))) (blkOk_by (own := [("there", 4)]) (N := ["boxes", "one", "other", "beside", "there", "length", "name", "steps", "waiting", "later", "found", "here"]) (sc := defScope s_way) (by decide +kernel)) (gok_name (by decide)) (fun _ _ _ _ _ => (pg_name (i := 4) sc_way.nd rfl (Or.inl rfl))) (fun _ _ _ _ _ => (dts_one (dt_eq hr.units (d_get2D hr.units (d_var 7) (d_var 4) (d_neg d_int)) (d_sub (d_getD hr.units (d_var 7) (d_var 11)) d_int)))) (fun _ _ _ _ _ => (d_var 4))) d_int) da_nil))))))
      (dss_one (ds_ret (d_gone (d_frz (d_var 10))))))))))))))
  case hsp =>
    skip
    rintro ds cs Q Z ⟨nb, x, y, rfl, hn, hx, hy, h0, h⟩ _
    show (_ : WS) (finD Q Z) [some _, some _, some _, none, none, none, none, none, none, none, none, none] cs
    walk_at "GO"
    refine ⟨by rw [dicB_kd, List.length_map, List.length_map]; have := hn.len; omega, ?_⟩
    rw [dicB_kd]
    refine r_dcm (l := nb) (g0 := fun q => .str q.1) (by rw [List.map_map]; rfl) (fun q => Sum.inr q.1) (fun q => .lst ((nearN nb q.1).map D.str)) (by
      have := dicB_nd hn.nd
      unfold dicB at this
      rw [List.map_map] at this
      exact this) (fun q N N' hm hN => ?_) ?_
    · have hq : q.1 ∈ nb.map (·.1) := List.mem_map.mpr ⟨q, hm, rfl⟩
      walk_at "GO"
      intro r hr
      refine ⟨r, _, rfl, look_hd, ?_⟩
      rw [del_hd]
      have hnl := nearN_len hn q.1
      refine ⟨by rw [List.length_map]; unfold nearN at hnl; rw [List.length_map] at hnl; omega, ?_⟩
      refine r_cmE (l := nearB nb q.1) (g := prR) rfl (fun z => .str z.1) (fun z M M' hz hM => ?_) ?_
      · unfold prR
        walk_at "GO"
        exact hM
      refine r_kkS ?_
      rw [show (nearB nb q.1).map (fun z => D.str z.1) = (nearN nb q.1).map D.str by unfold nearN; rw [List.map_map]; rfl]
      exact hN
    intro p0 hp0
    walk_at "GO"
    rw [show nb.map (fun a => ((Sum.inr a.1 : Key), D.lst ((nearN nb a.1).map D.str))) = besB nb from rfl]
    intro p hp
    walk_at "GO"
    have nn : ∀ v, (nbN nb v).Nodup := nbN_nd hn.nd
    refine r_while (fun i ρ cs' => ∃ (c4 c5 c6 c9 c10 c11 : Option D) (st : List (Str × Nat)) (q : List Str), ρ = [some (.dic (dicB nb)), some (.str x), some (.str y), some (.dic (besB nb)), c4, c5, c6, some (.opq (.ref p)), some (.lst (q.map D.str)), c9, c10, c11] ∧ Bfs (nbN nb) y st q ∧ i + st.length = nb.length + q.length ∧ (∀ v ∈ st.map (·.1), v ∈ nb.map (·.1)) ∧ cs' = (p, .dic (stD st)) :: cs) ⟨nb.length, ⟨_, _, _, _, _, _, [(y, 0)], [y], rfl, ⟨Bfs.start y, rfl, fun v hv => (by rw [List.mem_singleton.mp hv]; exact hy), rfl⟩⟩⟩ ?_
    rintro m ρ cs' N ⟨c4, c5, c6, c9, c10, c11, st, q, rfl, ⟨hb, hm, hsub, rfl⟩⟩ hN
    have l1 : st.length ≤ nb.length := by
      have := nodup_le hb.nd hsub
      rwa [List.length_map, List.length_map] at this
    have l2 : q.length ≤ nb.length := by
      have := nodup_le hb.qn fun v hv => hsub v (hb.wait v hv)
      rwa [List.length_map] at this
    have l3 := hn.len
    walk_at "GO"
    refine r_neNilD (plD_strs q (by omega)) ?_
    cases q with
    | cons a r =>
      rw [List.length_cons] at hm l2
      refine r_isT rfl ?_
      rw [List.map_cons (f := D.str)]
      walk_at "GO"
      have ha := hsub a (hb.wait a (List.mem_cons_self ..))
      obtain ⟨⟨a', k⟩, hk, ea⟩ := List.mem_map.mp (hb.wait a (List.mem_cons_self ..))
      have ea' : a' = a := ea
      subst ea'
      refine r_getKS (lk_bes hn.nd ha) ?_
      have hnl := nbN_len hn a'
      have hnn := nbN_in ha
      rw [← hnn]
      walk_at "GO"
      refine ⟨by rw [List.length_map]; omega, ?_⟩
      refine r_cfmE (l := nbN nb a') (g := D.str) rfl (fun z => decide (z ∉ st.map (·.1))) D.str (fun z M M' hz n1 n2 => ?_) ?_
      · walk_at "GO"
        rw [lk_stD_is hb.nd, ← decide_not]
        exact ⟨fun q1 => n1 q1, fun q1 => n2 q1⟩
      have tb := hb.turn hk (nn a') nbN_sy
      generalize hL : (nbN nb a').filter (fun z => decide (z ∉ st.map (·.1))) = L at tb
      have hLl : L.length ≤ (nbN nb a').length := by rw [← hL]; exact List.length_filter_le _ _
      have hLn : L.Nodup := by rw [← hL]; exact (nn a').filter _
      walk_at "GO"
      refine ⟨by rw [List.length_map]; omega, ?_⟩
      refine r_dcm (l := L) (g0 := D.str) rfl (fun z => Sum.inr z) (fun z => D.int ((k : Int) + 1)) (List.Pairwise.map _ (fun a b hn e => hn (Sum.inr.inj e)) hLn) (fun z M M' hz n1 => ?_) ?_
      · walk_at "GO"
        refine r_getMS look_hd (lk_stD hb.nd hk) ?_
        walk_at "GO"
        exact n1
      intro p2 hp2
      walk_at "GO"
      refine r_updH (by unfold stD; rw [List.length_map, List.length_map]; omega) ?_
      rw [show L.map (fun a => ((Sum.inr a : Key), D.int ((k : Int) + 1))) = stD (L.map fun z => (z, k + 1)) by unfold stD; rw [List.map_map]; rfl, stD_merge tb.nd]
      walk_at "GO"
      rw [← List.map_append]
      refine hN (m - 1) _ _ (by omega) ⟨_, _, _, _, _, _, _, _, rfl, ⟨tb, by rw [List.length_append, List.length_map, List.length_append]; omega, fun v hv => ?_, rfl⟩⟩
      rw [List.map_append, List.mem_append] at hv
      rcases hv with hv | hv
      · exact hsub v hv
      · obtain ⟨z, hz, rfl⟩ := List.mem_map.mp hv
        obtain ⟨z', hz', rfl⟩ := List.mem_map.mp hz
        rw [← hL] at hz'
        exact nearN_sub (nbN_mem ((List.mem_filter.mp hz').1)).2
    | nil =>
      refine r_isF rfl ?_
      have lv : Lvl (nbN nb) y (stF st) := hb.lvl (stF_iff hb.nd)
      walk_at "GO"
      rw [lk_stF hb.nd]
      cases hx0 : stF st x with
      | none =>
        refine r_isT rfl ?_
        walk_at "GO"
        refine h0 fun r w => ?_
        obtain ⟨k, e, _⟩ := lv.reach nbN_sy w
        rw [hx0] at e
        cases e
      | some k =>
        refine r_isF rfl ?_
        walk_at "GO"
        intro q hq
        have hqp : q ≠ p := fun e => hq (by rw [e]; exact List.mem_cons_self ..)
        walk_at "GO"
        refine r_while (fun i ρ cs' => ∃ (c4 c5 c6 c8 c9 c11 : Option D) (pre : List Str) (v : Str), ρ = [some (.dic (dicB nb)), some (.str x), some (.str y), some (.dic (besB nb)), c4, c5, c6, some (.opq (.ref p)), c8, c9, some (.opq (.ref q)), c11] ∧ stF st v = some i ∧ v ∈ nb.map (·.1) ∧ pre.length + i ≤ k ∧ (∀ r, FstW leS (nbN nb) v y r → ∃ R, pre ++ v :: r = x :: R ∧ FstW leS (nbN nb) x y R) ∧ cs' = (q, .lst ((pre ++ [v]).map D.str)) :: (p, .dic (stD st)) :: cs) ⟨k, ⟨_, _, _, _, _, _, [], x, rfl, ⟨hx0, hx, by simp, fun r hr => ⟨r, rfl, hr⟩, rfl⟩⟩⟩ ?_
        have hkl : k ≤ nb.length := by
          obtain ⟨r, e, w⟩ := lv.way x k hx0
          have hd := lv.dst nbN_sy hx0
          have f : ∀ s, Wk (nbN nb) x s y → r.length ≤ s.length := fun s ws => by rw [e]; exact hd.min s ws
          have nd := Wk.nd_of w f
          have sub : ∀ v ∈ r, v ∈ nb.map (·.1) := fun v hv => (by obtain ⟨u, hu⟩ := Wk.mem w v hv; exact nearN_sub (nbN_mem hu).2)
          have := nodup_le (List.nodup_cons.mp nd).2 sub
          rw [List.length_map] at this
          omega
        rintro m ρ cs' N ⟨c4, c5, c6, c8, c9, c11, pre, v, rfl, ⟨hv, hvn, hpre, hR, rfl⟩⟩ hN
        have hlast : atD ((pre ++ [v]).map D.str) (-1) = some (.str v) := atD_last (by simp) (by simp)
        walk_at "GO"
        refine r_ixM look_hd hlast ?_
        walk_at "GO"
        by_cases hvy : v = y
        · refine r_npos hvy ?_
          walk_at "GO"
          subst hvy
          obtain ⟨R, e1, e2⟩ := hR [] (FstW.nil v)
          rw [e1]
          exact h R e2
        · refine r_nneg hvy ?_
          walk_at "GO"
          refine r_ixM look_hd hlast ?_
          walk_at "GO"
          obtain ⟨j, rfl⟩ : ∃ j, m = j + 1 := by
            cases m with
            | succ j => exact ⟨j, rfl⟩
            | zero =>
              obtain ⟨s, e, w⟩ := lv.way v 0 hv
              rw [List.length_eq_zero_iff.mp e] at w
              exact absurd w hvy
          have hlk : look p ((q, MO.lst ((pre ++ [v]).map D.str)) :: (p, MO.dic (stD st)) :: cs) = some (.dic (stD st)) := by
            rw [look_cons_ne (Ne.symm hqp)]; exact look_hd
          refine r_getKS (lk_bes hn.nd hvn) ?_
          have hnl := nbN_len hn v
          have hnn := nbN_in hvn
          rw [← hnn]
          walk_at "GO"
          refine ⟨by rw [List.length_map]; omega, ?_⟩
          refine r_cfmE (l := nbN nb v) (g := D.str) rfl (fun z => decide (stF st z = some j)) D.str (fun z M M' hz n1 n2 => ?_) ?_
          · walk_at "GO"
            refine r_getMS hlk (lk_stD hb.nd ((stF_iff hb.nd _ _).mp hv)) ?_
            walk_at "GO"
            rw [lk_stF hb.nd]
            cases hsz : stF st z with
            | none =>
              rw [hsz] at n2
              show oEq (.int (-1)) _ _ _
              walk_at "GO"
              refine r_neg_ (by omega) ?_
              exact n2 (decide_eq_false (fun e => by cases e))
            | some l =>
              rw [hsz] at n1 n2
              show oEq (.int (l : Int)) _ _ _
              walk_at "GO"
              refine ⟨fun q1 => ?_, fun q1 => ?_⟩
              · have := decT q1
                walk_at "GO"
                exact n1 (decide_eq_true (by congr 1; omega))
              · have := decF q1
                exact n2 (decide_eq_false (fun e => by have := Option.some.inj e; omega))
          walk_at "GO"
          obtain ⟨z0, rest, hfil⟩ : ∃ z0 rest, (nbN nb v).filter (fun z => decide (stF st z = some j)) = z0 :: rest := by
            obtain ⟨s, e, w⟩ := lv.way v (j + 1) hv
            cases s with
            | nil => cases e
            | cons z s =>
              have hz := lv.near nbN_sy hv w.1 w.2 (Nat.succ.inj e)
              have hm : z ∈ (nbN nb v).filter (fun z => decide (stF st z = some j)) := List.mem_filter.mpr ⟨w.1, decide_eq_true hz⟩
              cases hf : (nbN nb v).filter (fun z => decide (stF st z = some j)) with
              | nil => rw [hf] at hm; cases hm
              | cons a l => exact ⟨a, l, rfl⟩
          have hz0 : z0 ∈ nbN nb v ∧ stF st z0 = some j := by
            have : z0 ∈ (nbN nb v).filter (fun z => decide (stF st z = some j)) := by rw [hfil]; exact List.mem_cons_self ..
            exact ⟨(List.mem_filter.mp this).1, of_decide_eq_true (List.mem_filter.mp this).2⟩
          have hfst : ∀ z ∈ nbN nb v, stF st z = some j → leS z0 z = true := fun z hz hs => by
            have hm : z ∈ (nbN nb v).filter (fun z => decide (stF st z = some j)) := List.mem_filter.mpr ⟨hz, decide_eq_true hs⟩
            have pw := (nbN_pw (nb := nb) v).filter (fun z => decide (stF st z = some j))
            rw [hfil] at hm pw
            rcases List.mem_cons.mp hm with e | e
            · rw [e]; exact leS_refl _
            · exact (List.pairwise_cons.mp pw).1 z e
          rw [hfil]
          rw [List.map_cons (f := D.str)]
          walk_at "GO"
          rw [show (pre ++ [v]).map D.str ++ [D.str z0] = ((pre ++ [v]) ++ [z0]).map D.str by rw [List.map_append (l₁ := pre ++ [v])]; rfl]
          refine hN j _ _ (Nat.lt_succ_self j) ⟨_, _, _, _, _, _, pre ++ [v], z0, rfl, ⟨hz0.2, nearN_sub (nbN_mem hz0.1).2, by rw [List.length_append, List.length_singleton]; omega, fun r hr => ?_, rfl⟩⟩
          obtain ⟨R, e1, e2⟩ := hR (z0 :: r) (lv.first ordS nbN_sy hv hz0.1 hz0.2 hfst hr)
          exact ⟨R, by rw [← e1, List.append_assoc]; rfl, e2⟩
def sp_law_same : Nat → DSp
  | 0 => fun _ _ _ _ => False
  | n + 1 => fun ds cs P _ => ∃ d, ds = [d, d] ∧ n ≤ 10 ∧ plD n d = true ∧ P (.bl true) cs
theorem r_law_same {d : D} {cs : Cs} {P : DP} {Z : XZ} (hd : plD 5 d = true) (h : P (.bl true) cs) : sp_law_same 6 [d, d] cs P Z := ⟨d, rfl, by decide, hd, h⟩
theorem sc_law_same : FnScope ["_law_found", "_law_due", "_law_key_now", "_law_one", "_law_other"] ["_law_found", "_law_due"] (defScope s_law_same) := ⟨rfl, rfl, rfl, by decide +kernel, rfl, by decide +kernel, by decide +kernel⟩
theorem ok_law_same {P : Program} {w : World} {K : PySem.W.Frag} {mg : Str → Option Value} {base : Heap} (T : Txt K mg base) (n : Nat) : FnOk P w K mg base (L2.CX P w) (n + 1) (He.ga K "_law_same") T.fd_law_same ["_law_found", "_law_due"] (spL K 2 (sp_law_same n)) := by
  induction n with
  | zero => exact vacF
  | succ n G =>
  rw [show n + 1 + 1 = (n + 1) + 1 from by omega]
  apply ok_def (k := n + 1) T.F_law_same sc_law_same
  case hb =>
    intro cdv A outer s H E hr
    exact (dss_cons (ds_if (dt_val (d_callB call_isi adq_isi rfl T.n_isinstance (by decide +kernel) (da_cons (d_var 1) (da_cons (d_ty (n := "dict") rfl T.n_dict (by decide +kernel)) da_nil)))) dss_never dss_nil)
      (dss_cons (ds_if (dt_val (d_callB call_isiD adq_isiT rfl T.n_isinstance (by decide +kernel) (da_cons (d_var 1) (da_cons (d_tup (da_cons (d_ty (n := "list") rfl T.n_list (by decide +kernel)) (da_cons (d_ty (n := "tuple") rfl T.n_tuple (by decide +kernel)) da_nil))) da_nil)))) (dss_cons (ds_if (dt_w (dw_or (dt_ne hr.units (d_callB call_isi adq_isi rfl T.n_isinstance (by decide +kernel) (da_cons (d_var 0) (da_cons (d_ty (n := "tuple") rfl T.n_tuple (by decide +kernel)) da_nil))) (d_callB call_isi adq_isi rfl T.n_isinstance (by decide +kernel) (da_cons (d_var 1) (da_cons (d_ty (n := "tuple") rfl T.n_tuple (by decide +kernel)) da_nil)))) (dw_or1 (dt_ne hr.units (d_callB call_isi adq_isi rfl T.n_isinstance (by decide +kernel) (da_cons (d_var 0) (da_cons (d_ty (n := "list") rfl T.n_list (by decide +kernel)) da_nil))) (d_callB call_isi adq_isi rfl T.n_isinstance (by decide +kernel) (da_cons (d_var 1) (da_cons (d_ty (n := "list") rfl T.n_list (by decide +kernel)) da_nil))))))) (dss_one (ds_ret d_bl)) dss_nil)
      (dss_one (ds_ret (d_and (d_eq hr.units (d_callB call_len_seq adq_len rfl T.n_len (by decide +kernel) (da_cons (d_var 0) da_nil)) (d_callB call_len_seq adq_len rfl T.n_len (by decide +kernel) (da_cons (d_var 1) da_nil))) (d_one (d_callB (cr_all rfl) adq_all rfl T.n_all (by decide +kernel) (da_cons (d_lc rfl sc_law_same.nd (di_zip rfl T.n_zip (da_cons (d_var 0) (da_cons (d_var 1) da_nil))) (blkOk_by (own := [("_law_one", 3), ("_law_other", 4)]) (N := ["_law_found", "_law_due", "_law_key_now", "_law_one", "_law_other"]) (sc := defScope s_law_same) (by decide +kernel)) (gok_two (by decide) (by decide)) (fun _ _ _ _ _ => (pg_tup (n := 2) rfl (pgs_cons (pg_name (i := 3) sc_law_same.nd rfl (Or.inl rfl)) (pgs_cons (pg_name (i := 4) sc_law_same.nd rfl (Or.inl rfl)) pgs_nil)))) (fun _ _ _ _ _ => dts_nil) (fun _ _ _ _ _ => (d_callN G hr rfl T.g_law_same T.F_law_same.kp (b_law_same T) takes0 (da_cons (d_var 3) (da_cons (d_var 4) da_nil))))) da_nil))))))) dss_nil)
      (dss_cons (ds_if (dt_w (dw_or (dt_ne hr.units (d_callB call_isi adq_isi rfl T.n_isinstance (by decide +kernel) (da_cons (d_var 1) (da_cons (d_ty (n := "bool") rfl T.n_bool (by decide +kernel)) da_nil))) (d_callB call_isi adq_isi rfl T.n_isinstance (by decide +kernel) (da_cons (d_var 0) (da_cons (d_ty (n := "bool") rfl T.n_bool (by decide +kernel)) da_nil)))) (dw_or1 (dt_ne hr.units (d_callB call_isi adq_isi rfl T.n_isinstance (by decide +kernel) (da_cons (d_var 1) (da_cons (d_ty (n := "str") rfl T.n_str (by decide +kernel)) da_nil))) (d_callB call_isi adq_isi rfl T.n_isinstance (by decide +kernel) (da_cons (d_var 0) (da_cons (d_ty (n := "str") rfl T.n_str (by decide +kernel)) da_nil))))))) (dss_one (ds_ret d_bl)) dss_nil)
      (dss_cons (ds_if (dt_ne hr.units (d_callB call_isi adq_isi rfl T.n_isinstance (by decide +kernel) (da_cons (d_var 1) (da_cons (d_ty (n := "int") rfl T.n_int (by decide +kernel)) da_nil))) (d_callB call_isi adq_isi rfl T.n_isinstance (by decide +kernel) (da_cons (d_var 0) (da_cons (d_ty (n := "int") rfl T.n_int (by decide +kernel)) da_nil)))) (dss_one (ds_ret d_bl)) dss_nil)
      (dss_one (ds_ret (d_and (d_eq hr.units (d_is (d_var 1) d_non) (d_is (d_var 0) d_non)) (d_one (d_eq hr.units (d_var 0) (d_var 1))))))))))
  case hsp =>
    skip
    rintro ds cs Q Z ⟨d, rfl, hn, hd, h⟩ _
    show (_ : WS) (finD Q Z) [some _, some _, none, none, none] cs
    have hd20 := plD_mono d hd (show n ≤ 20 by omega)
    have done_ : ∀ xs : List D, plL (n - 1) xs = true → 0 < n → ∀ x ∈ List.zipWith (fun d e => D.tup [d, e]) xs xs, ∃ y, x = .tup [y, y] ∧ plD (n - 1) y = true := by
      intro xs hx _ x hm
      rw [List.zipWith_self] at hm
      obtain ⟨y, hy, rfl⟩ := List.mem_map.mp hm
      exact ⟨y, rfl, plL_mem hx hy⟩
    cases d <;> try first
      | (cases n <;> simp [plD] at hd; done)
      | (walk_at "go"; first | exact h | (simpa using h) | (refine r_eqSelf hd20 ?_; exact h))
    all_goals
      rename_i xs hlen
      cases n with
      | zero => simp [plD] at hd
      | succ m =>
        have key := done_ xs (by first | exact plD_t hd | exact plD_l hd) (by omega)
        have hz : xs.length ≤ 100000 := by first | exact plD_tn hd | exact plD_ln hd
        walk_at "go"
        refine ⟨fun _ => ?_, fun z => absurd (show (xs.length : Int) = xs.length from rfl) (decF z)⟩
        walk_at "go"
        refine ⟨by rw [List.length_zipWith]; omega, ?_⟩
        refine r_compM (fun _ => .bl true) (fun d N N' hd hN => ?_) ?_
        · obtain ⟨y, rfl, hy⟩ := key d hd
          walk_at "go"
          exact ⟨y, rfl, by omega, hy, hN⟩
        walk_at "go"
        refine r_all (ns := List.replicate (List.zipWith (fun d e => D.tup [d, e]) xs xs).length true) (by rw [show (List.zipWith (fun d e => D.tup [d, e]) xs xs).map (fun _ => D.bl true) = (List.replicate (List.zipWith (fun d e => D.tup [d, e]) xs xs).length true).map D.bl by rw [List.map_replicate]; exact List.map_const']; exact blsOf_map _) ?_
        rw [List.all_replicate]
        simpa using h
local macro_rules | `(tactic| walk_at "cl") => `(tactic| (first | ((with_reducible apply r_law_same); (walk_at "pl"))))
def sp_law_less : DSp := fun ds cs P _ => ∃ x y : Rat, ds = [dR x, dR y] ∧ Sz 4000 x ∧ Sz 4000 y ∧ P (.bl (decide (x < y))) cs
theorem r_law_less {x y : Rat} {cs : Cs} {P : DP} {Z : XZ} (hx : Sz 4000 x) (hy : Sz 4000 y) (h : P (.bl (decide (x < y))) cs) : sp_law_less [dR x, dR y] cs P Z := ⟨x, y, rfl, hx, hy, h⟩
theorem sc_law_less : FnScope ["_law_one", "_law_other"] ["_law_one", "_law_other"] (defScope s_law_less) := ⟨rfl, rfl, rfl, by decide +kernel, rfl, by decide +kernel, by decide +kernel⟩
theorem ok_law_less {P : Program} {w : World} {K : PySem.W.Frag} {mg : Str → Option Value} {base : Heap} (T : Txt K mg base) : FnOk P w K mg base (L2.CX P w) 1 (He.ga K "_law_less") T.fd_law_less ["_law_one", "_law_other"] (spL K 2 sp_law_less) := by
  apply ok_def (k := 0) T.F_law_less sc_law_less
  case hb =>
    intro cdv A outer s H E hr
    exact (dss_one (ds_ret (d_lt (d_mul (d_sub_ix (d_var 0) d_int) (d_sub_ix (d_var 1) d_int)) (d_mul (d_sub_ix (d_var 1) d_int) (d_sub_ix (d_var 0) d_int)))))
  case hsp =>
    skip
    rintro ds cs Q Z ⟨x, y, rfl, hx, hy, h⟩ _
    show (_ : WS) (finD Q Z) [some _, some _] cs
    have m1 := hx.nd hy
    have m2 := hy.nd hx
    walk_at "go"
    have e : decide (x < y) = decide (x.num * (y.den : Int) < y.num * (x.den : Int)) := decide_eq_decide.mpr (Rat.lt_iff x y)
    rw [e] at h
    exact h
local macro_rules | `(tactic| walk_at "cl") => `(tactic| (first | ((with_reducible apply r_law_less); (walk_at "sz"); (walk_at "sz"))))
def sp_law_minus : DSp := fun ds cs P _ => ∃ x y : Rat, ds = [dR x, dR y] ∧ Sz 4000 x ∧ Sz 4000 y ∧ P (dR (x - y)) cs
theorem r_law_minus {x y : Rat} {cs : Cs} {P : DP} {Z : XZ} (hx : Sz 4000 x) (hy : Sz 4000 y) (h : P (dR (x - y)) cs) : sp_law_minus [dR x, dR y] cs P Z := ⟨x, y, rfl, hx, hy, h⟩
theorem sc_law_minus : FnScope ["_law_one", "_law_other"] ["_law_one", "_law_other"] (defScope s_law_minus) := ⟨rfl, rfl, rfl, by decide +kernel, rfl, by decide +kernel, by decide +kernel⟩
theorem ok_law_minus {P : Program} {w : World} {K : PySem.W.Frag} {mg : Str → Option Value} {base : Heap} (T : Txt K mg base) : FnOk P w K mg base (L2.CX P w) 3 (He.ga K "_law_minus") T.fd_law_minus ["_law_one", "_law_other"] (spL K 2 sp_law_minus) := by
  apply ok_def (k := 2) T.F_law_minus sc_law_minus
  case hb =>
    intro cdv A outer s H E hr
    exact (dss_one (ds_ret (d_callN (ok_law_part T) (hr.mono (by decide)) rfl T.g_law_part T.F_law_part.kp (b_law_part T) takesD (da_cons (d_sub (d_mul (d_sub_ix (d_var 0) d_int) (d_sub_ix (d_var 1) d_int)) (d_mul (d_sub_ix (d_var 1) d_int) (d_sub_ix (d_var 0) d_int))) (da_cons (d_mul (d_sub_ix (d_var 0) d_int) (d_sub_ix (d_var 1) d_int)) da_nil)))))
  case hsp =>
    skip
    rintro ds cs Q Z ⟨x, y, rfl, hx, hy, h⟩ _
    show (_ : WS) (finD Q Z) [some _, some _] cs
    have m1 := hx.nd hy
    have m2 := hy.nd hx
    have m3 := hx.dd hy
    have m4 := hx.nn hy
    walk_at "go"
    exact ⟨_, _, rfl, Int.mul_ne_zero (den_ne x) (den_ne y), dd_ok hx hy (by decide), by rw [divInt_sub]; exact h⟩
local macro_rules | `(tactic| walk_at "cl") => `(tactic| (first | ((with_reducible apply r_law_minus); (walk_at "sz"); (walk_at "sz"))))
def sp_law_common : DSp := fun ds cs P _ => ∃ a b c d : Rat, ds = [dR a, dR b, dR c, dR d] ∧ Sz 4000 a ∧ Sz 4000 b ∧ Sz 4000 c ∧ Sz 4000 d ∧ P (dR (ovR a b c d)) cs
theorem r_law_common {a b c d : Rat} {cs : Cs} {P : DP} {Z : XZ} (ha : Sz 4000 a) (hb : Sz 4000 b) (hc : Sz 4000 c) (hd : Sz 4000 d) (h : P (dR (ovR a b c d)) cs) : sp_law_common [dR a, dR b, dR c, dR d] cs P Z := ⟨a, b, c, d, rfl, ha, hb, hc, hd, h⟩
theorem sc_law_common : FnScope ["_law_low", "_law_high", "_law_start", "_law_end", "_law_begin", "_law_stop"] ["_law_low", "_law_high", "_law_start", "_law_end"] (defScope s_law_common) := ⟨rfl, rfl, rfl, by decide +kernel, rfl, by decide +kernel, by decide +kernel⟩
theorem ok_law_common {P : Program} {w : World} {K : PySem.W.Frag} {mg : Str → Option Value} {base : Heap} (T : Txt K mg base) : FnOk P w K mg base (L2.CX P w) 4 (He.ga K "_law_common") T.fd_law_common ["_law_low", "_law_high", "_law_start", "_law_end"] (spL K 4 sp_law_common) := by
  apply ok_def (k := 3) T.F_law_common sc_law_common
  case hb =>
    intro cdv A outer s H E hr
    exact (dss_cons (ds_set (i := 4) sc_law_common.nd rfl (Or.inl rfl) (d_if (dt_val (d_callN (ok_law_less T) (hr.mono (by decide)) rfl T.g_law_less T.F_law_less.kp (b_law_less T) takesD (da_cons (d_var 0) (da_cons (d_var 2) da_nil)))) (d_var 2) (d_var 0)))
      (dss_cons (ds_set (i := 5) sc_law_common.nd rfl (Or.inl rfl) (d_if (dt_val (d_callN (ok_law_less T) (hr.mono (by decide)) rfl T.g_law_less T.F_law_less.kp (b_law_less T) takesD (da_cons (d_var 1) (da_cons (d_var 3) da_nil)))) (d_var 1) (d_var 3)))
      (dss_one (ds_ret (d_if (dt_val (d_callN (ok_law_less T) (hr.mono (by decide)) rfl T.g_law_less T.F_law_less.kp (b_law_less T) takesD (da_cons (d_var 4) (da_cons (d_var 5) da_nil)))) (d_callN (ok_law_minus T) (hr.mono (by decide)) rfl T.g_law_minus T.F_law_minus.kp (b_law_minus T) takesD (da_cons (d_var 5) (da_cons (d_var 4) da_nil))) (d_tup (da_cons d_int (da_cons d_int da_nil))))))))
  case hsp =>
    skip
    rintro ds cs Q Z ⟨a, b, c, d, rfl, ha, hb, hc, hd, h⟩ _
    show (_ : WS) (finD Q Z) [some _, some _, some _, some _, none, none] cs
    walk_at "GO"
    unfold ovR at h
    by_cases h1 : a < c
    case' pos => rw [if_pos h1] at h; refine r_pos h1 ?_
    case' neg => rw [if_neg h1] at h; refine r_neg_ h1 ?_
    all_goals
      walk_at "GO"
      by_cases h2 : b < d
      case' pos => rw [if_pos h2] at h; refine r_pos h2 ?_
      case' neg => rw [if_neg h2] at h; refine r_neg_ h2 ?_
      all_goals
        walk_at "GO"
        refine ⟨fun h3 => ?_, fun h3 => ?_⟩
        · have h3 := decT h3
          rw [if_pos h3] at h
          walk_at "GO"
          exact h
        · have h3 := decF h3
          rw [if_neg h3] at h
          walk_at "GO"
          exact h
local macro_rules | `(tactic| walk_at "cl") => `(tactic| (first | ((with_reducible apply r_law_common); (walk_at "sz"); (walk_at "sz"); (walk_at "sz"); (walk_at "sz"))))
def sp_law_edge : DSp := fun ds cs P _ => ∃ b c : Bx, ds = [b.d, c.d] ∧ b.Sz 900 ∧ c.Sz 900 ∧ b.Pos ∧ c.Pos ∧ P (dR (edgeR b c)) cs
theorem r_law_edge {b c : Bx} {cs : Cs} {P : DP} {Z : XZ} (hb : b.Sz 900) (hc : c.Sz 900) (pb : b.Pos) (pc : c.Pos) (h : P (dR (edgeR b c)) cs) : sp_law_edge [b.d, c.d] cs P Z := ⟨b, c, rfl, hb, hc, pb, pc, h⟩
theorem sc_law_edge : FnScope ["_law_one", "_law_other", "_law_left", "_law_right", "_law_top", "_law_bottom", "_law_start", "_law_stop", "_law_upper", "_law_lower", "_law_found"] ["_law_one", "_law_other"] (defScope s_law_edge) := ⟨rfl, rfl, rfl, by decide +kernel, rfl, by decide +kernel, by decide +kernel⟩
theorem ok_law_edge {P : Program} {w : World} {K : PySem.W.Frag} {mg : Str → Option Value} {base : Heap} (T : Txt K mg base) : FnOk P w K mg base (L2.CX P w) 5 (He.ga K "_law_edge") T.fd_law_edge ["_law_one", "_law_other"] (spL K 2 sp_law_edge) := by
  apply ok_def (k := 4) T.F_law_edge sc_law_edge
  case hb =>
    intro cdv A outer s H E hr
    exact (dss_cons (ds_asg (d_callN (ok_law_ends T) (hr.mono (by decide)) rfl T.g_law_ends T.F_law_ends.kp (b_law_ends T) takesD (da_cons (d_var 0) da_nil)) (dg_tup (n := 4) rfl (dgs_cons (dg_name (i := 2) sc_law_edge.nd rfl (Or.inl rfl)) (dgs_cons (dg_name (i := 3) sc_law_edge.nd rfl (Or.inl rfl)) (dgs_cons (dg_name (i := 4) sc_law_edge.nd rfl (Or.inl rfl)) (dgs_cons (dg_name (i := 5) sc_law_edge.nd rfl (Or.inl rfl)) dgs_nil))))))
      (dss_cons (ds_asg (d_callN (ok_law_ends T) (hr.mono (by decide)) rfl T.g_law_ends T.F_law_ends.kp (b_law_ends T) takesD (da_cons (d_var 1) da_nil)) (dg_tup (n := 4) rfl (dgs_cons (dg_name (i := 6) sc_law_edge.nd rfl (Or.inl rfl)) (dgs_cons (dg_name (i := 7) sc_law_edge.nd rfl (Or.inl rfl)) (dgs_cons (dg_name (i := 8) sc_law_edge.nd rfl (Or.inl rfl)) (dgs_cons (dg_name (i := 9) sc_law_edge.nd rfl (Or.inl rfl)) dgs_nil))))))
      (dss_cons (ds_set (i := 10) sc_law_edge.nd rfl (Or.inl rfl) (d_tup (da_cons d_int (da_cons d_int da_nil))))
      (dss_cons (ds_if (dt_w (dw_or (dt_eq hr.units (d_var 3) (d_var 6)) (dw_or1 (dt_eq hr.units (d_var 7) (d_var 2))))) (dss_one (ds_set (i := 10) sc_law_edge.nd rfl (Or.inl rfl) (d_callN (ok_law_plus T) (hr.mono (by decide)) rfl T.g_law_plus T.F_law_plus.kp (b_law_plus T) takesD (da_cons (d_var 10) (da_cons (d_callN (ok_law_common T) (hr.mono (by decide)) rfl T.g_law_common T.F_law_common.kp (b_law_common T) takesD (da_cons (d_var 4) (da_cons (d_var 5) (da_cons (d_var 8) (da_cons (d_var 9) da_nil))))) da_nil))))) dss_nil)
      (dss_cons (ds_if (dt_w (dw_or (dt_eq hr.units (d_var 5) (d_var 8)) (dw_or1 (dt_eq hr.units (d_var 9) (d_var 4))))) (dss_one (ds_set (i := 10) sc_law_edge.nd rfl (Or.inl rfl) (d_callN (ok_law_plus T) (hr.mono (by decide)) rfl T.g_law_plus T.F_law_plus.kp (b_law_plus T) takesD (da_cons (d_var 10) (da_cons (d_callN (ok_law_common T) (hr.mono (by decide)) rfl T.g_law_common T.F_law_common.kp (b_law_common T) takesD (da_cons (d_var 2) (da_cons (d_var 3) (da_cons (d_var 6) (da_cons (d_var 7) da_nil))))) da_nil))))) dss_nil)
      (dss_one (ds_ret (d_var 10))))))))
  case hsp =>
    skip
    rintro ds cs Q Z ⟨b, c, rfl, hb, hc, pb, pc, h⟩ _
    have s1 := hb.l
    have s2 := hb.t
    have s3 := hb.w
    have s4 := hb.h
    have t1 := hc.l
    have t2 := hc.t
    have t3 := hc.w
    have t4 := hc.h
    rw [← edge_eq pb pc] at h
    unfold edgeL at h
    have z0 : Sz 4000 (0 : Rat) := Sz.ofInt (n := 0) (by decide) (by decide)
    have y1 : Sz 4000 (ovR b.t (b.t + b.h) c.t (c.t + c.h)) := (Sz.ov (n := 1801) (s2.mono (by decide)) (Sz.add s2 s4) (t2.mono (by decide)) (Sz.add t2 t4)).mono (by decide)
    have y2 : Sz 4000 (ovR b.l (b.l + b.w) c.l (c.l + c.w)) := (Sz.ov (n := 1801) (s1.mono (by decide)) (Sz.add s1 s3) (t1.mono (by decide)) (Sz.add t1 t3)).mono (by decide)
    show (_ : WS) (finD Q Z) [some _, some _, none, none, none, none, none, none, none, none, none] cs
    walk_at "G1"
    refine r_seq ?_
    walk_at "G1"
    refine r_seq ?_
    walk_at "G1"
    refine r_seq ?_
    walk_at "G1"
    refine r_key (fun ρ cs' => ρ = [some (b.d), some (c.d), some (dR b.l), some (dR (b.l + b.w)), some (dR b.t), some (dR (b.t + b.h)), some (dR c.l), some (dR (c.l + c.w)), some (dR c.t), some (dR (c.t + c.h)), some (dR (if b.l + b.w = c.l ∨ c.l + c.w = b.l then ovR b.t (b.t + b.h) c.t (c.t + c.h) else 0))] ∧ cs = cs') ?_ (fun nx key => ?_)
    case refine_2 =>
      by_cases h1 : b.l + b.w = c.l
      · walk_at "G1"
        refine r_pos h1 ?_
        rw [if_pos (.inl h1)] at key
        walk_at "G1"
        refine r_law_plus (x := 0) (y := ovR b.t (b.t + b.h) c.t (c.t + c.h)) z0 y1 ?_
        rw [Rat.zero_add]
        exact key _ _ ⟨rfl, rfl⟩
      · walk_at "G1"
        refine r_neg_ h1 ?_
        walk_at "G1"
        by_cases h2 : c.l + c.w = b.l
        · refine r_pos h2 ?_
          rw [if_pos (.inr h2)] at key
          walk_at "G1"
          refine r_law_plus (x := 0) (y := ovR b.t (b.t + b.h) c.t (c.t + c.h)) z0 y1 ?_
          rw [Rat.zero_add]
          exact key _ _ ⟨rfl, rfl⟩
        · refine r_neg_ h2 ?_
          rw [if_neg (fun z => z.elim h1 h2)] at key
          walk_at "G1"
          exact key _ _ ⟨rfl, rfl⟩
    rintro ρ cs' ⟨rfl, rfl⟩
    generalize hv : (if b.l + b.w = c.l ∨ c.l + c.w = b.l then ovR b.t (b.t + b.h) c.t (c.t + c.h) else 0) = v at h
    have y3 : Sz 4000 v := by rw [← hv]; split <;> assumption
    by_cases h1 : b.t + b.h = c.t
    · walk_at "GO"
      refine r_pos h1 ?_
      rw [if_pos (.inl h1)] at h
      walk_at "GO"
      exact h
    · walk_at "GO"
      refine r_neg_ h1 ?_
      walk_at "GO"
      by_cases h2 : c.t + c.h = b.t
      · refine r_pos h2 ?_
        rw [if_pos (.inr h2)] at h
        walk_at "GO"
        exact h
      · refine r_neg_ h2 ?_
        rw [if_neg (fun z => z.elim h1 h2), Rat.add_zero] at h
        walk_at "GO"
        exact h
local macro_rules | `(tactic| walk_at "cl") => `(tactic| (first | ((with_reducible apply r_law_edge); (walk_at "sz"); (walk_at "sz"); (walk_at "pb"); (walk_at "pb"))))
def nearL (nb : NB) (x : Str) (l : List Str) : List (Str × Rat) := ((l.filter fun y => decide (y ≠ x)).map fun y => (y, edgeR (bxOf nb x) (bxOf nb y))).filter fun q => decide (0 < q.2)
theorem nearL_more {nb : NB} {x y : Str} {l : List Str} {i : Nat} (h : l[i]? = some y) : nearL nb x (l.take (i + 1)) = nearL nb x (l.take i) ++ if y ≠ x ∧ 0 < edgeR (bxOf nb x) (bxOf nb y) then [(y, edgeR (bxOf nb x) (bxOf nb y))] else [] := by
  unfold nearL
  rw [take_more h, List.filter_append, List.map_append, List.filter_append]
  congr 1
  by_cases e : y = x
  · rw [List.filter_cons_of_neg (by simp [e]), if_neg (fun z => z.1 e)]; rfl
  · rw [List.filter_cons_of_pos (by simp [e]), List.filter_nil, List.map_cons, List.map_nil]
    by_cases e2 : 0 < edgeR (bxOf nb x) (bxOf nb y)
    · rw [List.filter_cons_of_pos (by simp [e2]), if_pos ⟨e, e2⟩]; rfl
    · rw [List.filter_cons_of_neg (by simp [e2]), if_neg (fun z => e2 z.2)]; rfl
theorem nearL_len (nb : NB) (x : Str) (l : List Str) : (nearL nb x l).length ≤ l.length := by
  unfold nearL
  refine Nat.le_trans (List.length_filter_le _ _) ?_
  rw [List.length_map]
  exact List.length_filter_le _ _
def sp_law_near : DSp := fun ds cs P _ => ∃ (nb : NB) (x : Str), ds = [.dic (dicB nb), .str x] ∧ NbOk nb ∧ x ∈ nb.map (·.1) ∧ P (.lst ((nearB nb x).map prR)) cs
theorem r_law_near {nb : NB} {x : Str} {cs : Cs} {P : DP} {Z : XZ} (hn : NbOk nb) (hx : x ∈ nb.map (·.1)) (h : P (.lst ((nearB nb x).map prR)) cs) : sp_law_near [.dic (dicB nb), .str x] cs P Z := ⟨nb, x, rfl, hn, hx, h⟩
theorem sc_law_near : FnScope ["_law_boxes_now", "_law_name", "_law_found", "_law_other", "_law_length"] ["_law_boxes_now", "_law_name"] (defScope s_law_near) := ⟨rfl, rfl, rfl, by decide +kernel, rfl, by decide +kernel, by decide +kernel⟩
theorem ok_law_near {P : Program} {w : World} {K : PySem.W.Frag} {mg : Str → Option Value} {base : Heap} (T : Txt K mg base) : FnOk P w K mg base (L2.CX P w) 6 (He.ga K "_law_near") T.fd_law_near ["_law_boxes_now", "_law_name"] (spL K 2 sp_law_near) := by
  apply ok_def (k := 5) T.F_law_near sc_law_near
  case hb =>
    intro cdv A outer s H E hr
    exact (dss_cons (ds_set (i := 2) sc_law_near.nd rfl (Or.inl rfl) (d_lstM da_nil))
      (dss_cons (ds_for passD rfl (di_list (d_callB (cr_sortDS rfl) adq_sortDS rfl T.n_sorted (by decide +kernel) (da_cons (d_var 0) da_nil))) (dg_name (i := 3) sc_law_near.nd rfl (Or.inl rfl)) (dss_cons (ds_set (i := 4) sc_law_near.nd rfl (Or.inl rfl) (d_callN (ok_law_edge T) (hr.mono (by decide)) rfl T.g_law_edge T.F_law_edge.kp (b_law_edge T) takesD (da_cons (d_getD hr.units (d_var 0) (d_var 1)) (da_cons (d_getD hr.units (d_var 0) (d_var 3)) da_nil))))
      (dss_one (ds_if (dt_w (dw_and (dt_ne hr.units (d_var 3) (d_var 1)) (dw_and1 (dt_gt (d_sub_ix (d_var 4) d_int) d_int)))) (dss_one (ds_expr (d_append (d_var 2) (da_cons (d_tup (da_cons (d_var 3) (da_cons (d_var 4) da_nil))) da_nil)))) dss_nil))))
      (dss_one (ds_ret (d_frz (d_var 2))))))
  case hsp =>
    skip
    rintro ds cs Q Z ⟨nb, x, rfl, hn, hx, h⟩ _
    have hm : ∀ y, y ∈ nb.map (·.1) → (y, bxOf nb y) ∈ nb := fun y hy => mem_bx hn.nd hy
    have hln : (namesB nb).length = nb.length := by unfold namesB; rw [sortN_len, List.length_map]
    have hl6 := hn.len
    show (_ : WS) (finD Q Z) [some _, some _, none, none, none] cs
    walk_at "GO"
    intro q hq
    walk_at "GO"
    refine r_sortDS (dicB_keys nb) (by rw [List.length_map]; omega) ?_
    walk_at "GO"
    refine r_loopE (l := namesB nb) (g := D.str) (fun i ρ cs' => ∃ (c3 c4 : Option D), ρ = [some (.dic (dicB nb)), some (.str x), some (.opq (.ref q)), c3, c4] ∧ cs' = (q, .lst ((nearL nb x ((namesB nb).take i)).map prR)) :: cs) rfl ⟨_, _, rfl, rfl⟩ ?_ ?_
    · rintro i y ρ cs' N hy1 ⟨c3, c4, rfl, rfl⟩ hN
      have hy := namesB_mem.mp (List.mem_of_getElem? hy1)
      have m1 := hm x hx
      have m2 := hm y hy
      have b1 := (hn.sz _ m1)
      have b2 := (hn.sz _ m2)
      have p1 := hn.pos _ m1
      have p2 := hn.pos _ m2
      have e1 := lk_bxOf hn.nd hx
      have e2 := lk_bxOf hn.nd hy
      have hll := nearL_len nb x ((namesB nb).take i)
      rw [List.length_take] at hll
      rw [nearL_more hy1] at hN
      walk_at "GO"
      by_cases e : y = x
      · rw [if_neg (fun z => z.1 e), List.append_nil] at hN
        refine r_npos e ?_
        walk_at "GO"
        exact hN _ _ ⟨_, _, rfl, rfl⟩
      · refine r_nneg e ?_
        walk_at "GO"
        rw [show decide ((0 : Int) < (edgeR (bxOf nb x) (bxOf nb y)).num) = decide (0 < edgeR (bxOf nb x) (bxOf nb y)) from posD_dR _]
        by_cases e3 : 0 < edgeR (bxOf nb x) (bxOf nb y)
        · rw [if_pos ⟨e, e3⟩] at hN
          refine r_pos e3 ?_
          walk_at "GO"
          refine hN _ _ ⟨_, _, rfl, ?_⟩
          rw [List.map_append]; rfl
        · rw [if_neg (fun z => e3 z.2), List.append_nil] at hN
          refine r_neg_ e3 ?_
          walk_at "GO"
          exact hN _ _ ⟨_, _, rfl, rfl⟩
    · rintro ρ cs' ⟨c3, c4, rfl, rfl⟩
      rw [List.take_length]
      walk_at "GO"
      exact h
local macro_rules | `(tactic| walk_at "cl") => `(tactic| (first | ((with_reducible apply r_law_near); (assumption); (walk_at "nm"))))
def sp_law_way : DSp := fun ds cs P _ => ∃ (nb : NB) (x y : Str), ds = [.dic (dicB nb), .str x, .str y] ∧ NbOk nb ∧ x ∈ nb.map (·.1) ∧ y ∈ nb.map (·.1) ∧ ((∀ r, ¬ Wk (nbN nb) x r y) → P .non cs) ∧ ∀ r, FstW leS (nbN nb) x y r → P (.lst ((x :: r).map D.str)) cs
theorem r_law_way {nb : NB} {x y : Str} {cs : Cs} {P : DP} {Z : XZ} (hn : NbOk nb) (hx : x ∈ nb.map (·.1)) (hy : y ∈ nb.map (·.1)) (h0 : (∀ r, ¬ Wk (nbN nb) x r y) → P .non cs) (h : ∀ r, FstW leS (nbN nb) x y r → P (.lst ((x :: r).map D.str)) cs) : sp_law_way [.dic (dicB nb), .str x, .str y] cs P Z := ⟨nb, x, y, rfl, hn, hx, hy, h0, h⟩
theorem sc_law_way : FnScope ["_law_boxes_now", "_law_one", "_law_other", "_law_ways_now", "_law_seen", "_law_ends_now", "_law_row", "_law_later", "_law_name", "_law_length"] ["_law_boxes_now", "_law_one", "_law_other"] (defScope s_law_way) := ⟨rfl, rfl, rfl, by decide +kernel, rfl, by decide +kernel, by decide +kernel⟩
theorem ok_law_way {P : Program} {w : World} {K : PySem.W.Frag} {mg : Str → Option Value} {base : Heap} (T : Txt K mg base) : FnOk P w K mg base (L2.CX P w) 7 (He.ga K "_law_way") T.fd_law_way ["_law_boxes_now", "_law_one", "_law_other"] (spL K 3 sp_law_way) := by
  apply ok_def (k := 6) T.F_law_way sc_law_way
  case hb =>
    intro cdv A outer s H E hr
    exact (dss_cons (ds_set (i := 3) sc_law_way.nd rfl (Or.inl rfl) (d_lst (da_cons (d_lst (da_cons (d_var 1) da_nil)) da_nil)))
      (dss_cons (ds_set (i := 4) sc_law_way.nd rfl (Or.inr rfl) (d_lst (da_cons (d_var 1) da_nil)))
      (dss_cons (ds_while passD (dt_ne hr.units (d_var 3) (d_lst da_nil)) (dss_cons (ds_setLc (i := 5) rfl sc_law_way.nd rfl rfl (sw_true rfl rfl rfl (by decide +kernel)) (di_list (d_var 3)) (blkOk_by (own := [("_law_row", 6)]) (N := ["_law_boxes_now", "_law_one", "_law_other", "_law_ways_now", "_law_seen", "_law_ends_now", "_law_row", "_law_later", "_law_name", "_law_length"]) (sc := defScope s_law_way) (by decide +kernel)) (gok_name (by decide)) (fun _ _ _ _ _ => (pg_name (i := 6) sc_law_way.nd rfl (Or.inl rfl))) (fun _ _ _ _ _ => (dts_one (dt_eq hr.units (d_sub_ix (d_var 6) (d_neg d_int)) (d_var 2)))) (fun _ _ _ _ _ => (d_var 6)))
      (dss_cons (ds_if (dt_ne hr.units (d_var 5) (d_lst da_nil)) (dss_one (ds_ret (d_callB (cr_minD rfl hr.units) adq_minD rfl T.n_min (by decide +kernel) (da_cons (d_var 5) da_nil)))) dss_nil)
      (dss_cons (ds_set (i := 7) sc_law_way.nd rfl (Or.inl rfl) (d_lst da_nil))
      (dss_cons (ds_for passD rfl (di_list (d_var 3)) (dg_name (i := 6) sc_law_way.nd rfl (Or.inr rfl)) (dss_one (ds_set (i := 7) sc_law_way.nd rfl (Or.inl rfl) (d_catL (d_var 7) (d_lc rfl sc_law_way.nd (di_list (d_callN (ok_law_near T) (hr.mono (by decide)) rfl T.g_law_near T.F_law_near.kp (b_law_near T) takesD (da_cons (d_var 0) (da_cons (d_sub_ix (d_var 6) (d_neg d_int)) da_nil)))) (blkOk_by (own := [("_law_name", 8), ("_law_length", 9)]) (N := ["_law_boxes_now", "_law_one", "_law_other", "_law_ways_now", "_law_seen", "_law_ends_now", "_law_row", "_law_later", "_law_name", "_law_length"]) (sc := defScope s_law_way) (by decide +kernel)) (gok_two (by decide) (by decide)) (fun _ _ _ _ _ => (pg_tup (n := 2) rfl (pgs_cons (pg_name (i := 8) sc_law_way.nd rfl (Or.inl rfl)) (pgs_cons (pg_name (i := 9) sc_law_way.nd rfl (Or.inl rfl)) pgs_nil)))) (fun _ _ _ _ _ => (dts_one (dt_notin (d_var 8) (d_var 4)))) (fun _ _ _ _ _ => (d_catL (d_var 6) (d_lst (da_cons (d_var 8) da_nil)))))))))
      (dss_cons (ds_set (i := 4) sc_law_way.nd rfl (Or.inr rfl) (d_catL (d_var 4) (d_sortSetX rfl rfl T.n_sorted rfl T.n_set (d_lc rfl sc_law_way.nd (di_list (d_var 7)) (blkOk_by (own := [("_law_row", 6)]) (N := ["_law_boxes_now", "_law_one", "_law_other", "_law_ways_now", "_law_seen", "_law_ends_now", "_law_row", "_law_later", "_law_name", "_law_length"]) (sc := defScope s_law_way) (by decide +kernel)) (gok_name (by decide)) (fun _ _ _ _ _ => (pg_name (i := 6) sc_law_way.nd rfl (Or.inl rfl))) (fun _ _ _ _ _ => dts_nil) (fun _ _ _ _ _ => (d_sub_ix (d_var 6) (d_neg d_int)))))))
      (dss_cons (ds_set (i := 3) sc_law_way.nd rfl (Or.inl rfl) (d_lstM da_nil))
      (dss_one (ds_frzA 3 (ds_for passD rfl (di_list (d_sortSetX rfl rfl T.n_sorted rfl T.n_set (d_lc rfl sc_law_way.nd (di_list (d_var 7)) (blkOk_by (own := [("_law_row", 6)]) (N := ["_law_boxes_now", "_law_one", "_law_other", "_law_ways_now", "_law_seen", "_law_ends_now", "_law_row", "_law_later", "_law_name", "_law_length"]) (sc := defScope s_law_way) (by decide +kernel)) (gok_name (by decide)) (fun _ _ _ _ _ => (pg_name (i := 6) sc_law_way.nd rfl (Or.inl rfl))) (fun _ _ _ _ _ => dts_nil) (fun _ _ _ _ _ => (d_sub_ix (d_var 6) (d_neg d_int)))))) (dg_name (i := 8) sc_law_way.nd rfl (Or.inr rfl)) (dss_one (ds_expr (d_append (d_var 3) (da_cons (d_callB (cr_minD rfl hr.units) adq_minD rfl T.n_min (by decide +kernel) (da_cons (d_lc rfl sc_law_way.nd (di_list (d_var 7)) (blkOk_by (own := [("_law_row", 6)]) (N := ["_law_boxes_now", "_law_one", "_law_other", "_law_ways_now", "_law_seen", "_law_ends_now", "_law_row", "_law_later", "_law_name", "_law_length"]) (sc := defScope s_law_way) (by decide +kernel)) (gok_name (by decide)) (fun _ _ _ _ _ => (pg_name (i := 6) sc_law_way.nd rfl (Or.inl rfl))) (fun _ _ _ _ _ => (dts_one (dt_eq hr.units (d_sub_ix (d_var 6) (d_neg d_int)) (d_var 8)))) (fun _ _ _ _ _ => (d_var 6))) da_nil)) da_nil))))))))))))))
      (dss_one (ds_ret d_non)))))
  case hsp =>
    skip
    rintro ds cs Q Z ⟨nb, x, y, rfl, hn, hx, hy, h0, h⟩ _
    show (_ : WS) (finD Q Z) [some _, some _, some _, none, none, none, none, none, none, none] cs
    walk_at "GO"
    have hl6 := hn.len
    refine r_while (fun i ρ cs' => ∃ (c5 c6 c7 c8 c9 : Option D) (rs : List (Str × List Str)) (sn : List Str) (k : Nat), ρ = [some (.dic (dicB nb)), some (.str x), some (.str y), some (.lst (rs.map fun q => rowD (x :: q.2))), some (.lst (sn.map D.str)), c5, c6, c7, c8, c9] ∧ LvW (nbN nb) x k rs ∧ SeenW (nbN nb) x k sn ∧ (∀ j, j < k → ¬ Dst (nbN nb) x y j) ∧ i + sn.length = nb.length + 1 + min rs.length 1 ∧ cs = cs') ⟨nb.length + 1, ⟨_, _, _, _, _, [(x, [])], [x], 0, rfl, ⟨LvW.start x, SeenW.start x, fun j hj => absurd hj (Nat.not_lt_zero j), rfl, rfl⟩⟩⟩ ?_
    rintro m ρ cs' N ⟨c5, c6, c7, c8, c9, rs, sn, k, rfl, ⟨lv, sw, hno, hm, rfl⟩⟩ hN
    obtain ⟨hsub, hrl⟩ := lv.le hx
    have hk : k < nb.length + 1 ∨ rs = [] := by
      cases rs with
      | nil => exact .inr rfl
      | cons q rs =>
        have hq := lv.fst q (List.mem_cons_self ..)
        have sub : ∀ v ∈ q.2, v ∈ nb.map (·.1) := fun v hv => (by obtain ⟨u, hu⟩ := Wk.mem hq.2.w v hv; exact nearN_sub (nbN_mem hu).2)
        have := nodup_le (List.nodup_cons.mp hq.2.nd).2 sub
        rw [List.length_map, hq.1] at this
        exact .inl (by omega)
    have hpl : plD 20 (.lst (rs.map fun q => rowD (x :: q.2))) = true := by
      refine plD_lI (plL_of fun d hd => ?_) (by rw [List.length_map]; omega)
      obtain ⟨q, hq, rfl⟩ := List.mem_map.mp hd
      refine plD_strs _ ?_
      rw [List.length_cons, (lv.fst q hq).1]
      rcases hk with hk | e
      · omega
      · rw [e] at hq; cases hq
    walk_at "GO"
    refine r_neNilD hpl ?_
    cases hrs : rs with
    | nil =>
      subst hrs
      refine r_isF rfl ?_
      walk_at "GO"
      refine h0 fun r w => ?_
      obtain ⟨j, _, d⟩ := Dst.of r.length rfl w
      rcases Nat.lt_or_ge j k with c | c
      · exact hno j c d
      · exact Dst.no (fun c dc => by have := lv.all c dc; cases this) j c y d
    | cons q0 rs0 =>
      rw [← hrs]
      refine r_isT (by rw [hrs]; rfl) ?_
      have hk : k < nb.length + 1 := hk.resolve_right (by rw [hrs]; exact List.cons_ne_nil _ _)
      have hmin : min rs.length 1 = 1 := by rw [hrs, List.length_cons]; omega
      clear hrs
      walk_at "GO"
      refine ⟨by rw [List.length_map]; omega, ?_⟩
      refine r_cfmE (l := rs) (g := fun q => rowD (x :: q.2)) rfl (fun q => decide (q.1 = y)) (fun q => rowD (x :: q.2)) (fun q M M' hq n1 n2 => ?_) ?_
      · have hql := (lv.fst q hq).2.w.lastD
        walk_at "GO"
        refine r_ixL hql ?_
        walk_at "GO"
        exact ⟨fun q1 => n1 q1, fun q1 => n2 q1⟩
      generalize he : rs.filter (fun q => decide (q.1 = y)) = es
      have hes : ∀ q, q ∈ es ↔ q ∈ rs ∧ q.1 = y := fun q => by rw [← he, List.mem_filter, decide_eq_true_eq]
      have hel : es.length ≤ rs.length := by rw [← he]; exact List.length_filter_le _ _
      have hql : ∀ q ∈ rs, (x :: q.2).length ≤ 100000 := fun q hq => by rw [List.length_cons, (lv.fst q hq).1]; omega
      have hpe : plD 20 (.lst (es.map fun q => rowD (x :: q.2))) = true := by
        refine plD_lI (plL_of fun d hd => ?_) (by rw [List.length_map]; omega)
        obtain ⟨q, hq, rfl⟩ := List.mem_map.mp hd
        exact plD_strs _ (hql q ((hes q).mp hq).1)
      walk_at "GO"
      refine r_neNilD hpe ?_
      cases hee : es with
      | cons e0 es0 =>
        refine r_isT rfl ?_
        rw [← hee]
        walk_at "GO"
        rw [show (es.map fun q => rowD (x :: q.2)) = (es.map fun q => x :: q.2).map rowD by rw [List.map_map]; rfl]
        refine r_minW (by rw [List.length_map, hee, List.length_cons]; omega) (by rw [List.length_map]; omega) (fun r hr => ?_) (fun r hr _ => ?_)
        · obtain ⟨q, hq, rfl⟩ := List.mem_map.mp hr
          exact hql q ((hes q).mp hq).1
        · obtain ⟨q, hq, rfl⟩ := List.mem_map.mp hr
          obtain ⟨q1, q2⟩ := (hes q).mp hq
          have f := (lv.fst q q1).2
          rw [q2] at f
          exact h q.2 f
      | nil =>
        refine r_isF rfl ?_
        have hno2 : ∀ j, j < k + 1 → ¬ Dst (nbN nb) x y j := fun j hj d => by
          rcases Nat.lt_or_ge j k with c | c
          · exact hno j c d
          · have : j = k := by omega
            subst this
            obtain ⟨q, hq, e⟩ := List.mem_map.mp (lv.all y d)
            have := (hes q).mpr ⟨hq, e⟩
            rw [hee] at this
            cases this
        clear he hes hel hpe hee es
        walk_at "GO"
        have hlw := fun rs => laterW_len (f := nbN nb) (sn := sn) (nbN_len hn) rs
        have hsn : sn.length ≤ nb.length := by
          have := nodup_le sw.nd fun v hv => by
            obtain ⟨j, _, d⟩ := (sw.mem v).mp hv
            obtain ⟨s, _, ws⟩ := d.way
            match s, ws with
            | [], w => exact (show x = v from w) ▸ hx
            | z :: r, w =>
              have l := w.last
              rw [List.getLast?_cons_cons] at l
              obtain ⟨u, hu⟩ := Wk.mem w v (List.mem_of_getLast? l)
              exact nearN_sub (nbN_mem hu).2
          rwa [List.length_map] at this
        refine r_loopE (l := rs) (g := fun q => rowD (x :: q.2)) (fun i ρ cs' => ∃ (c5 c6 c8 c9 : Option D), ρ = [some (.dic (dicB nb)), some (.str x), some (.str y), some (.lst (rs.map fun q => rowD (x :: q.2))), some (.lst (sn.map D.str)), c5, c6, some (.lst ((laterW (nbN nb) sn (rs.take i)).map fun z => rowD (x :: z.2))), c8, c9] ∧ cs = cs') rfl ⟨_, _, _, _, rfl, rfl⟩ ?_ ?_
        · rintro i q ρ cs1 N2 hq1 ⟨c5, c6, c8, c9, rfl, rfl⟩ hN2
          have hq := List.mem_of_getElem? hq1
          obtain ⟨hqk, hqf⟩ := lv.fst q hq
          have hqn := hsub q hq
          have hqlast := hqf.w.lastD
          have l1 := hlw (rs.take i)
          have l3 : (rs.take i).length ≤ rs.length := by rw [List.length_take]; omega
          have l2 : (nearB nb q.1).length < 60 := by have := nearN_len hn q.1; unfold nearN at this; rwa [List.length_map] at this
          walk_at "GO"
          refine r_ixL hqlast ?_
          walk_at "GO"
          refine ⟨by rw [List.length_map]; omega, ?_⟩
          refine r_cfmE (l := nearB nb q.1) (g := prR) rfl (fun z => decide (z.1 ∉ sn)) (fun z => rowD (x :: (q.2 ++ [z.1]))) (fun z M M' hz n1 n2 => ?_) ?_
          · unfold prR
            walk_at "GO"
            refine ⟨fun q1 => ?_, fun q1 => n2 ?_⟩
            · walk_at "GO"
              rw [show (x :: q.2).map D.str ++ [D.str z.1] = (x :: (q.2 ++ [z.1])).map D.str by rw [← List.cons_append, List.map_append (l₁ := x :: q.2)]; rfl]
              refine n1 ?_
              rw [decide_not]; exact q1
            · rw [decide_not]; exact q1
          rw [show ((nearB nb q.1).filter fun z => decide (z.1 ∉ sn)).map (fun z => rowD (x :: (q.2 ++ [z.1]))) = (((nbN nb q.1).filter fun y => decide (y ∉ sn)).map fun y => (y, q.2 ++ [y])).map fun z => rowD (x :: z.2) by
            rw [nbN_in hqn]; unfold nearN; rw [List.filter_map, List.map_map, List.map_map]; rfl]
          have l4 := List.length_filter_le (fun y => decide (y ∉ sn)) (nbN nb q.1)
          have l5 := nbN_len hn q.1
          have l6 : (rs.take i).length * 60 ≤ 60 * 60 := by
            have : (rs.take i).length ≤ 60 := by omega
            omega
          refine r_catLL (by rw [List.length_map, List.length_map, List.length_map]; omega) ?_
          rw [← List.map_append, ← laterW_more hq1]
          exact hN2 _ _ ⟨_, _, _, _, rfl, rfl⟩
        rintro ρ cs1 ⟨c5, c6, c8, c9, rfl, rfl⟩
        rw [List.take_length]
        have l1 := hlw rs
        have l6 : rs.length * 60 ≤ 60 * 60 := by
          have : rs.length ≤ 60 := by omega
          omega
        have hlast : ∀ z ∈ laterW (nbN nb) sn rs, atD ((x :: z.2).map D.str) (-1) = some (.str z.1) := fun z hz => by
          obtain ⟨q, _, _, _, h3⟩ := mem_laterW.mp hz
          rw [h3]; exact lastD_app _ _ _
        have hset : ∀ l, GotX ((laterW (nbN nb) sn rs).map (·.1)) l → l.length ≤ nb.length := fun l g => by
          have := nodup_le g.nd fun v hv => by
            obtain ⟨z, hz, rfl⟩ := List.mem_map.mp ((g.mem v).mp hv)
            obtain ⟨q, _, h1, _, _⟩ := mem_laterW.mp hz
            exact nearN_sub (nbN_mem h1).2
          rwa [List.length_map] at this
        walk_at "GO"
        refine ⟨by rw [List.length_map]; omega, ?_⟩
        refine r_cmE (l := laterW (nbN nb) sn rs) (g := fun z => rowD (x :: z.2)) rfl (fun z => .str z.1) (fun z M M' hz hM => ?_) ?_
        · walk_at "GO"
          refine r_ixL (hlast z hz) ?_
          exact hM
        refine ⟨(laterW (nbN nb) sn rs).map (·.1), by rw [List.map_map]; rfl, by rw [List.length_map]; omega, fun l g => ⟨by have := hset l g; omega, ?_⟩⟩
        have hgl := hset l g
        refine r_catLL (by rw [List.length_map, List.length_map, sortN_len]; omega) ?_
        rw [← List.map_append]
        walk_at "GO"
        intro p hp
        walk_at "GO"
        refine ⟨by rw [List.length_map]; omega, ?_⟩
        refine r_cmE (l := laterW (nbN nb) sn rs) (g := fun z => rowD (x :: z.2)) rfl (fun z => .str z.1) (fun z M M' hz hM => ?_) ?_
        · walk_at "GO"
          refine r_ixL (hlast z hz) ?_
          exact hM
        refine ⟨(laterW (nbN nb) sn rs).map (·.1), by rw [List.map_map]; rfl, by rw [List.length_map]; omega, fun l2 g2 => ⟨by have := hset l2 g2; omega, ?_⟩⟩
        rw [g2.sort g]
        clear g2 l2
        have hsl : ∀ v, v ∈ sortN l ↔ Dst (nbN nb) x v (k + 1) := fun v => by rw [sortN_mem, g.mem, later_dst lv sw]
        show loopW _ _ _ _ _ _
        refine r_loopE (l := sortN l) (g := D.str) (fun i ρ cs' => ∃ (c5 c6 c8 c9 : Option D) (nw : List (Str × List Str)), ρ = [some (.dic (dicB nb)), some (.str x), some (.str y), some (.opq (.ref p)), some (.lst ((sn ++ sortN l).map D.str)), c5, c6, some (.lst ((laterW (nbN nb) sn rs).map fun z => rowD (x :: z.2))), c8, c9] ∧ nw.map (·.1) = (sortN l).take i ∧ (∀ q ∈ nw, q.2.length = k + 1 ∧ FstW leS (nbN nb) x q.1 q.2) ∧ cs' = (p, .lst (nw.map fun q => rowD (x :: q.2))) :: cs) rfl ⟨_, _, _, _, [], rfl, ⟨rfl, fun q hq => absurd hq List.not_mem_nil, rfl⟩⟩ ?_ ?_
        · rintro i v ρ cs1 N3 hv1 ⟨c5, c6, c8, c9, nw, rfl, ⟨hn1, hn2, rfl⟩⟩ hN3
          have hv := List.mem_of_getElem? hv1
          have hnl : nw.length ≤ l.length := by
            have := congrArg List.length hn1
            rw [List.length_map, List.length_take, sortN_len] at this
            omega
          have hls : (sortN l).length = l.length := sortN_len l
          have hlen : ∀ z ∈ laterW (nbN nb) sn rs, z.2.length = k + 1 := fun z hz => by
            obtain ⟨q, hq, _, _, h3⟩ := mem_laterW.mp hz
            rw [h3, List.length_append, (lv.fst q hq).1]; rfl
          walk_at "GO"
          refine ⟨by rw [List.length_map]; omega, ?_⟩
          refine r_cfmE (l := laterW (nbN nb) sn rs) (g := fun z => rowD (x :: z.2)) rfl (fun z => decide (z.1 = v)) (fun z => rowD (x :: z.2)) (fun z M M' hz n1 n2 => ?_) ?_
          · walk_at "GO"
            refine r_ixL (hlast z hz) ?_
            walk_at "GO"
            exact ⟨fun q1 => n1 q1, fun q1 => n2 q1⟩
          have hfl := List.length_filter_le (fun z => decide (z.1 = v)) (laterW (nbN nb) sn rs)
          have hmf : ∀ z, z ∈ (laterW (nbN nb) sn rs).filter (fun z => decide (z.1 = v)) ↔ z ∈ laterW (nbN nb) sn rs ∧ z.1 = v := fun z => by rw [List.mem_filter, decide_eq_true_eq]
          generalize (laterW (nbN nb) sn rs).filter (fun z => decide (z.1 = v)) = fl at hfl hmf
          walk_at "GO"
          rw [show (fl.map fun z => rowD (x :: z.2)) = (fl.map fun z => x :: z.2).map rowD by rw [List.map_map]; rfl]
          have hfl2 : (fl.map fun z => x :: z.2).length ≤ 100000 := by rw [List.length_map]; omega
          refine r_minW ?_ hfl2 (fun r hr => ?_) (fun r hr hmn => ?_)
          · rw [List.length_map]
            obtain ⟨z, hz, e⟩ := List.mem_map.mp ((later_dst lv sw v).mpr ((hsl v).mp hv))
            exact List.length_pos_of_mem ((hmf z).mpr ⟨hz, e⟩)
          · obtain ⟨z, hz, rfl⟩ := List.mem_map.mp hr
            rw [List.length_cons, hlen z ((hmf z).mp hz).1]; omega
          · obtain ⟨z, hz, rfl⟩ := List.mem_map.mp hr
            obtain ⟨hz1, rfl⟩ := (hmf z).mp hz
            have hf := later_first lv sw hz1 fun m hm e => hmn _ (List.mem_map.mpr ⟨m, (hmf m).mpr ⟨hm, e⟩, rfl⟩)
            walk_at "GO"
            rw [show (nw.map fun q => rowD (x :: q.2)) ++ [rowD (x :: z.2)] = (nw ++ [z]).map fun q => rowD (x :: q.2) by rw [List.map_append]; rfl]
            refine hN3 _ _ ⟨_, _, _, _, nw ++ [z], rfl, ⟨by rw [List.map_append, hn1, List.take_add_one, hv1]; rfl, fun q hq => ?_, rfl⟩⟩
            rcases List.mem_append.mp hq with hq | hq
            · exact hn2 q hq
            · rw [List.mem_singleton.mp hq]; exact hf
        rintro ρ cs1 ⟨c5, c6, c8, c9, nw, rfl, ⟨hn1, hn2, rfl⟩⟩
        rw [List.take_length] at hn1
        refine ⟨p, _, rfl, look_hd, ?_⟩
        rw [del_hd]
        have lv' : LvW (nbN nb) x (k + 1) nw := ⟨hn2, fun c dc => by rw [hn1]; exact (hsl c).mpr dc, by rw [hn1]; exact sortN_nd g.nd⟩
        have hnl : nw.length = l.length := by
          have := congrArg List.length hn1
          rwa [List.length_map, sortN_len] at this
        have sw' := sw.next lv g
        have hsn2 : (sn ++ sortN l).length ≤ nb.length := by
          have := nodup_le sw'.nd fun v hv => by
            rcases List.mem_append.mp hv with hv | hv
            · obtain ⟨j, _, d⟩ := (sw.mem v).mp hv
              obtain ⟨s, _, ws⟩ := d.way
              match s, ws with
              | [], w => exact (show x = v from w) ▸ hx
              | z :: r, w =>
                have l := w.last
                rw [List.getLast?_cons_cons] at l
                obtain ⟨u, hu⟩ := Wk.mem w v (List.mem_of_getLast? l)
                exact nearN_sub (nbN_mem hu).2
            · obtain ⟨z, hz, rfl⟩ := List.mem_map.mp ((g.mem v).mp (sortN_mem.mp hv))
              obtain ⟨q, _, h1, _, _⟩ := mem_laterW.mp hz
              exact nearN_sub (nbN_mem h1).2
          rwa [List.length_map] at this
        rw [List.length_append, sortN_len] at hsn2
        refine hN (m - l.length - (1 - min nw.length 1)) _ _ (by omega) ⟨_, _, _, _, _, nw, sn ++ sortN l, k + 1, rfl, ⟨lv', sw', hno2, by rw [List.length_append, sortN_len]; omega, rfl⟩⟩
theorem sc_law : FnScope ["_law_script", "_law_bag_here", "_law_turn", "_law_whole_box", "_law_named", "_law_left", "_law_right", "_law_top", "_law_bottom", "_law_k", "_law_name", "_law_handed", "_law_step", "_law_one", "_law_other"] ["_law_script"] (defScope s_law) := ⟨rfl, rfl, rfl, by decide +kernel, rfl, by decide +kernel, by decide +kernel⟩
theorem ok_law {P : Program} {w : World} {K : PySem.W.Frag} {mg : Str → Option Value} {base : Heap} (T : Txt K mg base) : FnOk P w K mg base (L2.CX P w) 8 (He.ga K "law") T.fd_law ["_law_script"] (spL K 1 (sp_law K)) := by
  apply ok_def (k := 7) T.F_law sc_law
  case hb =>
    intro cdv A outer s H E hr
    exact (dss_cons (ds_set (i := 1) sc_law.nd rfl (Or.inl rfl) (d_callN (ok_law_bag T) (hr.mono (by decide)) rfl T.g_law_bag T.F_law_bag.kp (b_law_bag T) takesD (da_cons (d_var 0) da_nil)))
      (dss_cons (ds_for passD rfl (di_range1 rfl T.n_range (da_cons d_int da_nil)) (dg_name (i := 2) sc_law.nd rfl (Or.inl rfl)) (dss_cons (ds_asg (d_callN (ok_law_boxes_named T) (hr.mono (by decide)) rfl T.g_law_boxes_named T.F_law_boxes_named.kp (b_law_boxes_named T) takesD (da_cons (d_var 1) (da_cons d_int da_nil))) (dg_tup (n := 2) rfl (dgs_cons (dg_name (i := 3) sc_law.nd rfl (Or.inl rfl)) (dgs_cons (dg_name (i := 4) sc_law.nd rfl (Or.inl rfl)) dgs_nil))))
      (dss_cons (ds_lockA 4 (ds_if (dt_eq hr.units (d_callN (ok_law_get T) (hr.mono (by decide)) rfl T.g_law_get T.F_law_get.kp (b_law_get T) takesD (da_cons (d_var 1) (da_cons d_int da_nil))) d_int) (dss_cons (ds_asg (d_callN (ok_law_ends T) (hr.mono (by decide)) rfl T.g_law_ends T.F_law_ends.kp (b_law_ends T) takesD (da_cons (d_var 3) da_nil)) (dg_tup (n := 4) rfl (dgs_cons (dg_name (i := 5) sc_law.nd rfl (Or.inl rfl)) (dgs_cons (dg_name (i := 6) sc_law.nd rfl (Or.inl rfl)) (dgs_cons (dg_name (i := 7) sc_law.nd rfl (Or.inl rfl)) (dgs_cons (dg_name (i := 8) sc_law.nd rfl (Or.inl rfl)) dgs_nil))))))
      (dss_one (ds_for passD rfl (di_enum rfl T.n_enumerate (da_cons (d_lst (da_cons d_str (da_cons d_str da_nil))) da_nil)) (dg_tup (n := 2) rfl (dgs_cons (dg_name (i := 9) sc_law.nd rfl (Or.inl rfl)) (dgs_cons (dg_name (i := 10) sc_law.nd rfl (Or.inl rfl)) dgs_nil))) (dss_one (ds_if (dt_notinD hr.units (d_var 10) (d_var 4)) (dss_one (ds_setDK hr.units (d_tup (da_cons (d_callN (ok_law_plus T) (hr.mono (by decide)) rfl T.g_law_plus T.F_law_plus.kp (b_law_plus T) takesD (da_cons (d_var 6) (da_cons (d_tup (da_cons (d_add d_int (d_mul d_int (d_var 9))) (da_cons d_int da_nil))) da_nil))) (da_cons (d_var 7) (da_cons (d_tup (da_cons d_int (da_cons d_int da_nil))) (da_cons (d_tup (da_cons d_int (da_cons d_int da_nil))) da_nil))))) (d_var 4) (d_var 10))) dss_nil))))) dss_nil))
      (dss_cons (ds_set (i := 11) sc_law.nd rfl (Or.inl rfl) (d_lockD (d_callTy cr_dictDD adq_dictDD rfl T.n_dict (by decide +kernel) (da_cons (d_var 4) da_nil))))
      (dss_cons (ds_for passD rfl (di_range1 rfl T.n_range (da_cons d_int da_nil)) (dg_name (i := 12) sc_law.nd rfl (Or.inl rfl)) (dss_cons (ds_par (i := 13) (j := 14) rfl sc_law.nd rfl rfl (by decide) rfl rfl (da_cons (d_callN (ok_law_pick T) (hr.mono (by decide)) rfl T.g_law_pick T.F_law_pick.kp (b_law_pick T) takesD (da_cons (d_var 1) (da_cons (d_callTy (cr_listDD rfl) adq_listDD rfl T.n_list (by decide +kernel) (da_cons (d_var 4) da_nil)) da_nil))) (da_cons (d_callN (ok_law_pick T) (hr.mono (by decide)) rfl T.g_law_pick T.F_law_pick.kp (b_law_pick T) takesD (da_cons (d_var 1) (da_cons (d_callTy (cr_listDD rfl) adq_listDD rfl T.n_list (by decide +kernel) (da_cons (d_var 4) da_nil)) da_nil))) da_nil)))
      (dss_one (ds_if (dt_w (dw_or (dt_not (dt_val (d_callN (ok_law_same T 6) (hr.mono (by decide)) rfl T.g_law_same T.F_law_same.kp (b_law_same T) takesD (da_cons (d_callN (ok_way T) (hr.mono (by decide)) rfl T.g_way T.F_way.kp (b_way T) takesD (da_cons (d_var 11) (da_cons (d_var 13) (da_cons (d_var 14) da_nil)))) (da_cons (d_callN (ok_law_way T) (hr.mono (by decide)) rfl T.g_law_way T.F_law_way.kp (b_law_way T) takesD (da_cons (d_var 4) (da_cons (d_var 13) (da_cons (d_var 14) da_nil)))) da_nil))))) (dw_or1 (dt_neDic hr.units (d_var 11) (d_var 4))))) (dss_one (ds_ret d_bl)) dss_nil))))
      (dss_cons (ds_set (i := 13) sc_law.nd rfl (Or.inl rfl) (d_callN (ok_law_pick T) (hr.mono (by decide)) rfl T.g_law_pick T.F_law_pick.kp (b_law_pick T) takesD (da_cons (d_var 1) (da_cons (d_callTy (cr_listDD rfl) adq_listDD rfl T.n_list (by decide +kernel) (da_cons (d_var 4) da_nil)) da_nil))))
      (dss_one (ds_if (dt_ne hr.units (d_callN (ok_way T) (hr.mono (by decide)) rfl T.g_way T.F_way.kp (b_way T) takesD (da_cons (d_var 11) (da_cons (d_var 13) (da_cons (d_var 13) da_nil)))) (d_lst (da_cons (d_var 13) da_nil))) (dss_one (ds_ret d_bl)) dss_nil))))))))
      (dss_one (ds_ret d_bl))))
  case hsp =>
    skip
    rintro ds cs Q Z ⟨ns, rfl, hl, hcs, h⟩ _
    show (_ : WS) (finD Q Z) [some _, none, none, none, none, none, none, none, none, none, none, none, none, none, none] cs
    subst hcs
    walk_at "GO"
    refine ⟨ns, rfl, fun p b hp hb => ?_⟩
    have hbag : BagIn p ((p, b) :: tbls (tbD K)) := ⟨b, by simp [look], hb⟩
    walk_at "GO"
    refine ⟨by decide, ?_⟩
    refine r_loop0 (fun i ρ cs' => ∃ (c2 c3 c4 c5 c6 c7 c8 c9 c10 c11 c12 c13 c14 : Option D), ρ = [some (.lst (ns.map D.int)), some (.opq (.ref p)), c2, c3, c4, c5, c6, c7, c8, c9, c10, c11, c12, c13, c14] ∧ BagIn p cs') ⟨_, _, _, _, _, _, _, _, _, _, _, _, _, rfl, hbag⟩ ?_ ?_
    rotate_left
    · rintro ρ cs' ⟨c2, c3, c4, c5, c6, c7, c8, c9, c10, c11, c12, c13, c14, rfl, hb1⟩
      walk_at "GO"
      exact h _
    rintro i d ρ ca N hd ⟨c2, c3, c4, c5, c6, c7, c8, c9, c10, c11, c12, c13, c14, rfl, hb1⟩ hN
    walk_at "GO"
    intro bx ws zs dn nm cb hp0 hs0 hl0 ht0 hws hwl hz hnm st1 q hq
    rw [dicZ_B]
    have hn := nbOk_laid (dn := dn) hp0 hs0 hws hz hnm
    have hnl : (nm.zip (laidB bx ws zs dn)).length ≤ 10 := by
      rw [List.length_zip, hnm.len, laid_len bx dn hz]
      omega
    have hne0 : nm.zip (laidB bx ws zs dn) ≠ [] := fun e => by
      have := congrArg List.length e
      rw [List.length_zip, hnm.len, laid_len bx dn hz] at this
      have := hws.l0
      rw [List.length_nil] at *
      omega
    generalize nm.zip (laidB bx ws zs dn) = nb at hn hne0 hnl
    have hb2 := st1.bag
    have hpq := hb2.ne hq
    clear st1
    refine r_gT rfl ?_
    refine r_gCn ?_
    refine r_gN ?_
    refine r_gCn ?_
    refine r_gN ?_
    refine r_gNl ?_
    refine r_key (fun ρ cs' => ∃ (c2 c5 c6 c7 c8 c9 c10 c11 c12 c13 c14 : Option D) (nb : NB), ρ = [some (.lst (ns.map D.int)), some (.opq (.ref p)), c2, some (bx.d), some (.dic (dicB nb)), c5, c6, c7, c8, c9, c10, c11, c12, c13, c14] ∧ NbOk nb ∧ 0 < nb.length ∧ BagIn p cs') ?_ (fun nx key => ?_)
    case refine_2 =>
      refine q_lockA ?_
      walk_at "G1"
      intro g ce g0 g1 st2
      obtain ⟨cd, rfl, su⟩ := st2.under hpq
      have hb3 := su.bag
      walk_at "G1"
      refine ⟨fun _ => ?_, fun _ => ?_⟩
      · refine r_seq ?_
        walk_at "GO"
        refine ⟨_, rfl, ?_⟩
        refine r_loopE (l := List.range 2) (g := fun i : Nat => D.tup [.int (i : Int), .str (if i = 0 then "alone" else "beside")]) (fun i ρ cs' => ∃ (c2 c9 c10 c11 c12 c13 c14 : Option D) (nc : NB), ρ = [some (.lst (ns.map D.int)), some (.opq (.ref p)), c2, some (bx.d), some (.opq (.ref q)), some (dR bx.l), some (dR (bx.l + bx.w)), some (dR bx.t), some (dR (bx.t + bx.h)), c9, c10, c11, c12, c13, c14] ∧ NbOk nc ∧ nc.length ≤ 10 + i ∧ 0 < nc.length ∧ cs' = (q, .dic (dicB nc)) :: cd) rfl ⟨_, _, _, _, _, _, _, nb, rfl, ⟨hn, by omega, List.length_pos_iff.mpr hne0, rfl⟩⟩ ?_ ?_
        · rintro k j ρ cs2 N2 hj1 ⟨c2, c9, c10, c11, c12, c13, c14, nc, rfl, ⟨hc, hcl, hc0, rfl⟩⟩ hN2
          have hj2 := List.mem_range.mp (List.mem_of_getElem? hj1)
          have hjk : j = k := by
            rw [List.getElem?_range (by have := (List.getElem?_eq_some_iff.mp hj1).1; rwa [List.length_range] at this)] at hj1
            exact (Option.some.inj hj1).symm
          generalize (if j = 0 then ("alone" : Str) else "beside") = nw
          walk_at "GO"
          by_cases hx : nw ∈ nc.map (·.1)
          · rw [lk_bxOf hc.nd hx]
            refine r_isF rfl ?_
            walk_at "GO"
            exact hN2 _ _ ⟨_, _, _, _, _, _, _, nc, rfl, ⟨hc, by omega, hc0, rfl⟩⟩
          · rw [lk_dicB_no hx]
            refine r_isT rfl ?_
            walk_at "GO"
            rw [show D.tup [D.int (1 + 3 * (j : Int)), D.int 1] = dR ((1 + 3 * (j : Int) : Int) : Rat) from rfl]
            have szj : Sz 10 ((1 + 3 * (j : Int) : Int) : Rat) := Sz.ofInt (by omega) (by decide)
            have szr : Sz 500 (bx.l + bx.w) := (hs0.l.add hs0.w).mono (by decide)
            have szs : Sz 900 (bx.l + bx.w + ((1 + 3 * (j : Int) : Int) : Rat)) := (szr.add szj).mono (by decide)
            have szt : Sz 900 bx.t := hs0.t.mono (by decide)
            have sz3 : Sz 900 ((3 : Int) : Rat) := (Sz.ofInt (k := 3) (by decide) (by decide)).mono (by decide)
            have sz1 : Sz 900 ((1 : Int) : Rat) := (Sz.ofInt (k := 3) (by decide) (by decide)).mono (by decide)
            refine r_law_plus (szr.mono (by decide)) (szj.mono (by decide)) ?_
            walk_at "GO"
            refine r_setKS (by unfold dicB; rw [List.length_map]; omega) ?_
            rw [putD_new _ (lk_dicB_no hx)]
            rw [show dicB nc ++ [((Sum.inr nw : Key), D.tup [dR (bx.l + bx.w + ((1 + 3 * (j : Int) : Int) : Rat)), dR bx.t, .tup [.int 3, .int 1], .tup [.int 1, .int 1]])] = dicB (nc ++ [(nw, (⟨bx.l + bx.w + ((1 + 3 * (j : Int) : Int) : Rat), bx.t, ((3 : Int) : Rat), ((1 : Int) : Rat)⟩ : Bx))]) by unfold dicB; rw [List.map_append]; rfl]
            refine hN2 _ _ ⟨_, _, _, _, _, _, _, _, rfl, ⟨⟨?_, by rw [List.length_append, List.length_singleton]; omega, fun z hz => ?_, fun z hz => ?_⟩, by rw [List.length_append, List.length_singleton]; omega, by rw [List.length_append]; omega, rfl⟩⟩
            · rw [List.map_append]
              exact List.nodup_append.mpr ⟨hc.nd, by simp, fun a ha b hb e => hx (by
                rw [List.map_singleton, List.mem_singleton] at hb
                have hb : b = nw := hb
                rw [← hb, ← e]; exact ha)⟩
            · rcases List.mem_append.mp hz with hz | hz
              · exact hc.sz z hz
              · rw [List.mem_singleton.mp hz]; exact ⟨szs, szt, sz3, sz1⟩
            · rcases List.mem_append.mp hz with hz | hz
              · exact hc.pos z hz
              · rw [List.mem_singleton.mp hz]; exact ⟨ofInt_pos (by decide), ofInt_pos (by decide)⟩
        rintro ρ cs2 ⟨c2, c9, c10, c11, c12, c13, c14, nc, rfl, ⟨hc, hcl, hc0, rfl⟩⟩
        refine ⟨q, _, rfl, look_hd, ?_⟩
        rw [del_hd]
        exact key _ _ ⟨_, _, _, _, _, _, _, _, _, _, _, nc, rfl, ⟨hc, hc0, hb3⟩⟩
      · walk_at "GO"
        exact key _ _ ⟨_, _, _, _, _, _, _, _, _, _, _, nb, rfl, ⟨hn, List.length_pos_iff.mpr hne0, hb3⟩⟩
    clear hn hne0 hnl nb
    rintro ρ cs1 ⟨c2, c5, c6, c7, c8, c9, c10, c11, c12, c13, c14, nb, rfl, ⟨hn, hn1, hb3⟩⟩
    have hnlen := hn.len
    walk_at "GO"
    intro q2 hq2
    walk_at "GO"
    refine ⟨by decide, ?_⟩
    refine r_loop0 (fun i ρ cs' => ∃ (c2 c5 c6 c7 c8 c9 c10 c12 c13 c14 : Option D), ρ = [some (.lst (ns.map D.int)), some (.opq (.ref p)), c2, some (bx.d), some (.dic (dicB nb)), c5, c6, c7, c8, c9, c10, some (.dic (dicB nb)), c12, c13, c14] ∧ BagIn p cs') ⟨_, _, _, _, _, _, _, _, _, _, rfl, hb3⟩ ?_ ?_
    · rintro i d2 ρ cs2 N2 hd2 ⟨c2, c5, c6, c7, c8, c9, c10, c12, c13, c14, rfl, hb4⟩ hN2
      walk_at "GO"
      rw [dicB_kd]
      refine r_law_pick (by rw [List.length_map, List.length_map]; exact hn1) (by rw [List.length_map, List.length_map]; omega) hb4 ?_
      intro x0 ca hx0 st1
      obtain ⟨x, hx, rfl⟩ := List.mem_map.mp hx0
      walk_at "GO"
      rw [dicB_kd]
      refine r_law_pick (by rw [List.length_map, List.length_map]; exact hn1) (by rw [List.length_map, List.length_map]; omega) st1.bag ?_
      intro y0 cc hy0 st2
      obtain ⟨y, hy, rfl⟩ := List.mem_map.mp hy0
      have hb5 := st2.bag
      clear st1 st2
      have hpw : plD 5 .non = true := rfl
      have hfin : ∀ {ρ2 : DL.Env} {cs3 : Cs}, True := trivial
      walk_at "GO"
      refine r_way hn hx hy (fun no => ?_) fun r hr => ?_
      · walk_at "GO"
        refine r_law_way hn hx hy (fun _ => ?_) fun r2 hr2 => absurd hr2.w (no r2)
        walk_at "GO"
        refine r_neDic (dicB_pl nb) (dicB_pl nb) ?_
        rw [eqDic_self (dicB_nd hn.nd) (dicB_pl nb)]
        walk_at "GO"
        exact hN2 _ _ ⟨_, _, _, _, _, _, _, _, _, _, rfl, hb5⟩
      · walk_at "GO"
        refine r_law_way hn hx hy (fun no => absurd hr.w (no r)) fun r2 hr2 => ?_
        obtain rfl := hr.uniq ordS hr2
        have hrl : r.length ≤ 60 := by
          have sub : ∀ v ∈ r, v ∈ nb.map (·.1) := fun v hv => (by obtain ⟨u, hu⟩ := Wk.mem hr.w v hv; exact nearN_sub (nbN_mem hu).2)
          have := nodup_le (List.nodup_cons.mp hr.nd).2 sub
          rw [List.length_map] at this
          omega
        walk_at "GO"
        refine r_law_same (plD_strs _ (by rw [List.length_cons]; omega)) ?_
        walk_at "GO"
        refine r_neDic (dicB_pl nb) (dicB_pl nb) ?_
        rw [eqDic_self (dicB_nd hn.nd) (dicB_pl nb)]
        walk_at "GO"
        exact hN2 _ _ ⟨_, _, _, _, _, _, _, _, _, _, rfl, hb5⟩
    rintro ρ cs2 ⟨c2, c5, c6, c7, c8, c9, c10, c12, c13, c14, rfl, hb4⟩
    walk_at "GO"
    rw [dicB_kd]
    refine r_law_pick (by rw [List.length_map, List.length_map]; exact hn1) (by rw [List.length_map, List.length_map]; omega) hb4 ?_
    intro x0 ca hx0 st1
    obtain ⟨x, hx, rfl⟩ := List.mem_map.mp hx0
    have hb5 := st1.bag
    walk_at "GO"
    refine r_way hn hx hx (fun no => absurd (show Wk (nbN nb) x [] x from rfl) (no [])) fun r hr => ?_
    obtain rfl := hr.uniq ordS (FstW.nil x)
    refine ⟨rfl, rfl, ?_⟩
    rw [show eqD (D.lst ([x].map D.str)) (D.lst [D.str x]) = true from eqD_refl _ 5 rfl]
    walk_at "GO"
    exact hN _ _ ⟨_, _, _, _, _, _, _, _, _, _, _, _, _, rfl, hb5⟩
theorem tb_at {K : PySem.W.Frag} {H : Hp} (hT : ∀ p ∈ tfD.map (He.cT K), H p.2 = some (.tbl #[])) : ∀ p ∈ tbD K, H p.1 = some (.tbl #[]) := by
  intro p hp
  have z : p.1 ∈ tfD.map fun q => (He.cT K q).2 := (show (tbD K).map (·.1) = tfD.map (fun q => (He.cT K q).2) from rfl) ▸ List.mem_map.mpr ⟨p, hp, rfl⟩
  obtain ⟨q, hq, e⟩ := List.mem_map.mp z
  rw [← e]
  exact hT _ (List.mem_map.mpr ⟨q, hq, rfl⟩)
theorem facts {K : PySem.W.Frag} {h base : Heap} {mg : Str → Option Value} {w : World} (X : K.In h) (G : h.Ns mainGlobals mg) (cx : He.SaysX faD fnD [] tfD exB w h K) (TB : ∀ p ∈ tfD, LamX.TabB base mg (He.cT K p).1 (He.cT K p).2) : Nonempty (Txt K mg base) := by
  have c : He.SaysD faD fnD K := cx.t.d
  obtain ⟨ex1, ex2⟩ := Bool.and_eq_true_iff.mp cx.more
  obtain ⟨ex3, ex4⟩ := Bool.and_eq_true_iff.mp ex2
  obtain ⟨fd_law_bag, F_law_bag⟩ := c.def_ 0 (d := dd_law_bag) rfl
  obtain ⟨fd_law_get, F_law_get⟩ := c.def_ 1 (d := dd_law_get) rfl
  obtain ⟨fd_law_weight, F_law_weight⟩ := c.def_ 2 (d := dd_law_weight) rfl
  obtain ⟨fd_law_weights, F_law_weights⟩ := c.def_ 3 (d := dd_law_weights) rfl
  obtain ⟨fd_law_gcd, F_law_gcd⟩ := c.def_ 4 (d := dd_law_gcd) rfl
  obtain ⟨fd_law_part, F_law_part⟩ := c.def_ 5 (d := dd_law_part) rfl
  obtain ⟨fd_law_far, F_law_far⟩ := c.def_ 6 (d := dd_law_far) rfl
  obtain ⟨fd_law_number, F_law_number⟩ := c.def_ 7 (d := dd_law_number) rfl
  obtain ⟨fd_law_some_part, F_law_some_part⟩ := c.def_ 8 (d := dd_law_some_part) rfl
  obtain ⟨fd_law_above, F_law_above⟩ := c.def_ 9 (d := dd_law_above) rfl
  obtain ⟨fd_law_plain_box, F_law_plain_box⟩ := c.def_ 10 (d := dd_law_plain_box) rfl
  obtain ⟨fd_law_pick, F_law_pick⟩ := c.def_ 11 (d := dd_law_pick) rfl
  obtain ⟨fd_law_names, F_law_names⟩ := c.def_ 12 (d := dd_law_names) rfl
  obtain ⟨fd_law_parted, F_law_parted⟩ := c.def_ 13 (d := dd_law_parted) rfl
  obtain ⟨fd_law_plus, F_law_plus⟩ := c.def_ 14 (d := dd_law_plus) rfl
  obtain ⟨fd_law_times, F_law_times⟩ := c.def_ 15 (d := dd_law_times) rfl
  obtain ⟨fd_law_split, F_law_split⟩ := c.def_ 16 (d := dd_law_split) rfl
  obtain ⟨fd_law_turned_lean, F_law_turned_lean⟩ := c.def_ 17 (d := dd_law_turned_lean) rfl
  obtain ⟨fd_law_laid, F_law_laid⟩ := c.def_ 18 (d := dd_law_laid) rfl
  obtain ⟨fd_law_sizes, F_law_sizes⟩ := c.def_ 19 (d := dd_law_sizes) rfl
  obtain ⟨fd_law_lean, F_law_lean⟩ := c.def_ 20 (d := dd_law_lean) rfl
  obtain ⟨fd_law_boxes_named, F_law_boxes_named⟩ := c.def_ 21 (d := dd_law_boxes_named) rfl
  obtain ⟨fd_law_ends, F_law_ends⟩ := c.def_ 22 (d := dd_law_ends) rfl
  obtain ⟨fd_need_named, F_need_named⟩ := c.def_ 23 (d := dd_need_named) rfl
  obtain ⟨fd_common, F_common⟩ := c.def_ 24 (d := dd_common) rfl
  obtain ⟨fd_part, F_part⟩ := c.def_ 25 (d := dd_part) rfl
  obtain ⟨fd_plus, F_plus⟩ := c.def_ 26 (d := dd_plus) rfl
  obtain ⟨fd_ends, F_ends⟩ := c.def_ 27 (d := dd_ends) rfl
  obtain ⟨fd_less, F_less⟩ := c.def_ 28 (d := dd_less) rfl
  obtain ⟨fd_minus, F_minus⟩ := c.def_ 29 (d := dd_minus) rfl
  obtain ⟨fd_overlap, F_overlap⟩ := c.def_ 30 (d := dd_overlap) rfl
  obtain ⟨fd_edge_between, F_edge_between⟩ := c.def_ 31 (d := dd_edge_between) rfl
  obtain ⟨fd_near, F_near⟩ := c.def_ 32 (d := dd_near) rfl
  obtain ⟨fd_way, F_way⟩ := c.def_ 33 (d := dd_way) rfl
  obtain ⟨fd_law_same, F_law_same⟩ := c.def_ 34 (d := dd_law_same) rfl
  obtain ⟨fd_law_less, F_law_less⟩ := c.def_ 35 (d := dd_law_less) rfl
  obtain ⟨fd_law_minus, F_law_minus⟩ := c.def_ 36 (d := dd_law_minus) rfl
  obtain ⟨fd_law_common, F_law_common⟩ := c.def_ 37 (d := dd_law_common) rfl
  obtain ⟨fd_law_edge, F_law_edge⟩ := c.def_ 38 (d := dd_law_edge) rfl
  obtain ⟨fd_law_near, F_law_near⟩ := c.def_ 39 (d := dd_law_near) rfl
  obtain ⟨fd_law_way, F_law_way⟩ := c.def_ 40 (d := dd_law_way) rfl
  obtain ⟨fd_law, F_law⟩ := c.def_ 41 (d := dd_law) rfl
  exact ⟨{ g_NOUGHT := He.glo_ok X G (c.fact 59 (f := .glo "NOUGHT") rfl), k_NOUGHT := (of_decide_eq_true ex4).2, fd_law_bag := fd_law_bag, F_law_bag := F_law_bag, g_law_bag := He.glo_ok X G (c.fact 0 (f := .glo "_law_bag") rfl), fd_law_get := fd_law_get, F_law_get := F_law_get, g_law_get := He.glo_ok X G (c.fact 1 (f := .glo "_law_get") rfl), fd_law_weight := fd_law_weight, F_law_weight := F_law_weight, g_law_weight := He.glo_ok X G (c.fact 2 (f := .glo "_law_weight") rfl), fd_law_weights := fd_law_weights, F_law_weights := F_law_weights, g_law_weights := He.glo_ok X G (c.fact 3 (f := .glo "_law_weights") rfl), fd_law_gcd := fd_law_gcd, F_law_gcd := F_law_gcd, g_law_gcd := He.glo_ok X G (c.fact 4 (f := .glo "_law_gcd") rfl), fd_law_part := fd_law_part, F_law_part := F_law_part, g_law_part := He.glo_ok X G (c.fact 5 (f := .glo "_law_part") rfl), fd_law_far := fd_law_far, F_law_far := F_law_far, g_law_far := He.glo_ok X G (c.fact 6 (f := .glo "_law_far") rfl), fd_law_number := fd_law_number, F_law_number := F_law_number, g_law_number := He.glo_ok X G (c.fact 7 (f := .glo "_law_number") rfl), fd_law_some_part := fd_law_some_part, F_law_some_part := F_law_some_part, g_law_some_part := He.glo_ok X G (c.fact 8 (f := .glo "_law_some_part") rfl), fd_law_above := fd_law_above, F_law_above := F_law_above, g_law_above := He.glo_ok X G (c.fact 9 (f := .glo "_law_above") rfl), fd_law_plain_box := fd_law_plain_box, F_law_plain_box := F_law_plain_box, g_law_plain_box := He.glo_ok X G (c.fact 10 (f := .glo "_law_plain_box") rfl), fd_law_pick := fd_law_pick, F_law_pick := F_law_pick, g_law_pick := He.glo_ok X G (c.fact 11 (f := .glo "_law_pick") rfl), fd_law_names := fd_law_names, F_law_names := F_law_names, g_law_names := He.glo_ok X G (c.fact 12 (f := .glo "_law_names") rfl), fd_law_parted := fd_law_parted, F_law_parted := F_law_parted, g_law_parted := He.glo_ok X G (c.fact 13 (f := .glo "_law_parted") rfl), fd_law_plus := fd_law_plus, F_law_plus := F_law_plus, g_law_plus := He.glo_ok X G (c.fact 14 (f := .glo "_law_plus") rfl), fd_law_times := fd_law_times, F_law_times := F_law_times, g_law_times := He.glo_ok X G (c.fact 15 (f := .glo "_law_times") rfl), fd_law_split := fd_law_split, F_law_split := F_law_split, g_law_split := He.glo_ok X G (c.fact 16 (f := .glo "_law_split") rfl), fd_law_turned_lean := fd_law_turned_lean, F_law_turned_lean := F_law_turned_lean, g_law_turned_lean := He.glo_ok X G (c.fact 17 (f := .glo "_law_turned_lean") rfl), fd_law_laid := fd_law_laid, F_law_laid := F_law_laid, g_law_laid := He.glo_ok X G (c.fact 18 (f := .glo "_law_laid") rfl), fd_law_sizes := fd_law_sizes, F_law_sizes := F_law_sizes, g_law_sizes := He.glo_ok X G (c.fact 19 (f := .glo "_law_sizes") rfl), fd_law_lean := fd_law_lean, F_law_lean := F_law_lean, g_law_lean := He.glo_ok X G (c.fact 20 (f := .glo "_law_lean") rfl), fd_law_boxes_named := fd_law_boxes_named, F_law_boxes_named := F_law_boxes_named, g_law_boxes_named := He.glo_ok X G (c.fact 21 (f := .glo "_law_boxes_named") rfl), fd_law_ends := fd_law_ends, F_law_ends := F_law_ends, g_law_ends := He.glo_ok X G (c.fact 22 (f := .glo "_law_ends") rfl), fd_need_named := fd_need_named, F_need_named := F_need_named, g_need_named := He.glo_ok X G (c.fact 23 (f := .glo "need_named") rfl), fd_common := fd_common, F_common := F_common, g_common := He.glo_ok X G (c.fact 24 (f := .glo "common") rfl), fd_part := fd_part, F_part := F_part, g_part := He.glo_ok X G (c.fact 25 (f := .glo "part") rfl), fd_plus := fd_plus, F_plus := F_plus, g_plus := He.glo_ok X G (c.fact 26 (f := .glo "plus") rfl), fd_ends := fd_ends, F_ends := F_ends, g_ends := He.glo_ok X G (c.fact 27 (f := .glo "ends") rfl), fd_less := fd_less, F_less := F_less, g_less := He.glo_ok X G (c.fact 28 (f := .glo "less") rfl), fd_minus := fd_minus, F_minus := F_minus, g_minus := He.glo_ok X G (c.fact 29 (f := .glo "minus") rfl), fd_overlap := fd_overlap, F_overlap := F_overlap, g_overlap := He.glo_ok X G (c.fact 30 (f := .glo "overlap") rfl), fd_edge_between := fd_edge_between, F_edge_between := F_edge_between, g_edge_between := He.glo_ok X G (c.fact 31 (f := .glo "edge_between") rfl), fd_near := fd_near, F_near := F_near, g_near := He.glo_ok X G (c.fact 32 (f := .glo "near") rfl), fd_way := fd_way, F_way := F_way, g_way := He.glo_ok X G (c.fact 33 (f := .glo "way") rfl), fd_law_same := fd_law_same, F_law_same := F_law_same, g_law_same := He.glo_ok X G (c.fact 34 (f := .glo "_law_same") rfl), fd_law_less := fd_law_less, F_law_less := F_law_less, g_law_less := He.glo_ok X G (c.fact 35 (f := .glo "_law_less") rfl), fd_law_minus := fd_law_minus, F_law_minus := F_law_minus, g_law_minus := He.glo_ok X G (c.fact 36 (f := .glo "_law_minus") rfl), fd_law_common := fd_law_common, F_law_common := F_law_common, g_law_common := He.glo_ok X G (c.fact 37 (f := .glo "_law_common") rfl), fd_law_edge := fd_law_edge, F_law_edge := F_law_edge, g_law_edge := He.glo_ok X G (c.fact 38 (f := .glo "_law_edge") rfl), fd_law_near := fd_law_near, F_law_near := F_law_near, g_law_near := He.glo_ok X G (c.fact 39 (f := .glo "_law_near") rfl), fd_law_way := fd_law_way, F_law_way := F_law_way, g_law_way := He.glo_ok X G (c.fact 40 (f := .glo "_law_way") rfl), fd_law := fd_law, F_law := F_law, g_law := He.glo_ok X G (c.fact 41 (f := .glo "law") rfl), n_abs := He.free_ok X G (c.fact 42 (f := .free "abs") rfl), n_all := He.free_ok X G (c.fact 43 (f := .free "all") rfl), n_bool := He.free_ok X G (c.fact 44 (f := .free "bool") rfl), n_dict := He.free_ok X G (c.fact 45 (f := .free "dict") rfl), n_enumerate := He.free_ok X G (c.fact 46 (f := .free "enumerate") rfl), n_int := He.free_ok X G (c.fact 47 (f := .free "int") rfl), n_isinstance := He.free_ok X G (c.fact 48 (f := .free "isinstance") rfl), n_len := He.free_ok X G (c.fact 49 (f := .free "len") rfl), n_list := He.free_ok X G (c.fact 50 (f := .free "list") rfl), n_min := He.free_ok X G (c.fact 51 (f := .free "min") rfl), n_range := He.free_ok X G (c.fact 52 (f := .free "range") rfl), n_set := He.free_ok X G (c.fact 53 (f := .free "set") rfl), n_sorted := He.free_ok X G (c.fact 54 (f := .free "sorted") rfl), n_str := He.free_ok X G (c.fact 55 (f := .free "str") rfl), n_sum := He.free_ok X G (c.fact 56 (f := .free "sum") rfl), n_tuple := He.free_ok X G (c.fact 57 (f := .free "tuple") rfl), n_zip := He.free_ok X G (c.fact 58 (f := .free "zip") rfl) }⟩
end Lw
open PySem PySem.W PySem.Calls PyProof.Rows
set_option maxRecDepth 100000 in
set_option maxHeartbeats 0 in
theorem PySem.Challenge.cw_calmcuts_k43_ways_between_boxes_holds : PySem.Challenge.rw_calmcuts_k43_ways_between_boxes.Holds := by
  w_on; o_law
  o_head Lw.hk2
  case hw => w_witness2
  case hc =>
    refine LamX.walk_ofTsE (l := PySem.Challenge.rw_calmcuts_k43_ways_between_boxes) (n := 63) (k := 8) (x := "_law_script") (CX := fun _ => L2.CX0) rfl (by decide) (by kernel_rfl) ⟨rfl, by decide, by decide⟩ ?F (fun _ _ _ _ _ z => z)
    intro w mg fa h Y G hmg0
    obtain ⟨K, KX, c⟩ := Y
    have hmg : mg ("law" : PySem.Str) = some (.ref fa) := by
      have e : (HandSHeadRun.topDef (OpenLaw.row PySem.Challenge.rw_calmcuts_k43_ways_between_boxes).prog 51).name = ("law" : PySem.Str) := by kernel_rfl
      rw [← e]
      exact hmg0
    have ef : fa = He.ga K "law" := DL.ref_inj hmg (He.glo_ok KX G (c.t.d.fact 41 (f := .glo "law") rfl))
    subst ef
    obtain ⟨fd, F⟩ := c.t.d.def_ 41 (d := Lw.dd_law) rfl
    have b := L2.FunD.bindsA (ps := ["_law_script"]) F fun _ _ _ _ _ _ us hl => match us, hl with | [_], _ => rfl
    obtain ⟨_, ex2⟩ := Bool.and_eq_true_iff.mp c.more
    obtain ⟨_, ex4⟩ := Bool.and_eq_true_iff.mp ex2
    refine ⟨K, KX, fd, Lw.tfD.map (He.cT K), (fun vs H Q _ => DL.spL K 1 (Lw.sp_law K) vs H Q fun _ _ _ => False), ?_, ?_, ?_, fun s v => b s [v] rfl, fun H a ns hl _ hT hS => DL.law_startT (ts := Lw.tbD K) (of_decide_eq_true ex4).1 (Lw.tb_at hT) hl hS, fun base _ _ TB => ?_⟩
    · intro p hp
      obtain ⟨q, hq, e⟩ := List.mem_map.mp hp
      subst e
      exact c.empty q hq
    · intro p hp
      obtain ⟨q, hq, e⟩ := List.mem_map.mp hp
      subst e
      exact c.out q hq
    · intro p hp
      obtain ⟨q, hq, e⟩ := List.mem_map.mp hp
      subst e
      exact PySem.W.codeHd_of_K KX (c.hd q hq)
    · obtain ⟨T⟩ := Lw.facts (base := base) KX G c (fun p hp => TB _ (List.mem_map.mpr ⟨p, hp, rfl⟩))
      rw [DL.fd_same F T.F_law]
      exact DL.calmF (Lw.ok_law T)
#print axioms PySem.Challenge.cw_calmcuts_k43_ways_between_boxes_holds
