import PyProof.Rows.All
import Wide.All
import OpenK.AllK
import Wide.FinOn
import KE.KStateDown
import Lean
import KE.DataEq
import KE.DataFind
import HandS.ForMost
import HandS.Exc
import HandS.ExcOwn
import HandS.CallSlots
import HandS.Defaults
import HandS.Wide
import HandS.IsInst
import HandS.TupAny
import HandS.Zip
import HandS.Style
import HandS.MakeKwOnly
import HandS.SortInts
import HandS.More
import HandS.WordsExc
import HandS.Lambda
import HandS.TryMany
import HandS.ExcInit
import HandS.ExcField
import HandS.HeadHook4
import HandS.HeadWalk
import HandS.Head0
import HandS.Head1
import HandS.Head2
import HandS.HeadEnd
import HandS.HeadHook1
import HandS.HeadHook2
import HandS.Dict
import HandS.DictComp
import HandS.Iter
import HandS.RevRange
import HandS.Conv
import HandS.TupMul
import HandS.Sort
import HandS.Keys
import KE.KDictCopyH
import KE.KDictSum
import HandS.TupSets
import KE.KDictWalk
import HandS.Flow
import KE.DataMinMax
import KE.SortData
import HandS.EndTab
import HandS.ClsMeth
import HandS.Text
import HandS.FStr
import HandS.Codes
import HandS.Strs
import KE.KDictZip
import KE.KItemsList
import HandS.ListItems
import HandS.DictEq
import PySem.Challenge.RW_calmcuts_k40_whole_each_square_has_one_t
import Open.Tops
set_option Elab.async false
set_option linter.all false
set_option maxRecDepth 100000
set_option maxHeartbeats 4000000
set_option maxHeartbeats 0 in
open_shared Sh for (PySem.W.OpenLaw.prog PySem.Challenge.rw_calmcuts_k40_whole_each_square_has_one_t) leaving 1
namespace DL
open PySem PySem.Spec PyProof.Rows L2 LamX ClX
/-- the built-in base of own exceptions -/
inductive XB | v | l | i
def XB.new : XB → String | .v => "ValueError.__new__" | .l => "LookupError.__new__" | .i => "IndexError.__new__"
def XB.ini : XB → String | .v => "ValueError.__init__" | .l => "LookupError.__init__" | .i => "IndexError.__init__"
def oexB (K : PySem.W.Frag) (C : Addr) : Bool := (match K.lookup C with
  | some ⟨.type c, _, .cls cd, sl⟩ => decide (c = "type") && (cd.hasDict && (!cd.hasDel && (match cd.mro, sl.toList with
    | .ref C' :: bm, [_, _, _, _, some (.builtin n), _] => decide (C' = C) && (decide (n = "ValueError.__new__") && PySem.HandSPX.refsVE bm)
    | _, _ => false)))
  | _ => false) && (decide (PySem.W.findIn K (.ref C) "__setattr__" = some (some (.builtin "object.__setattr__"))) && (decide (PySem.W.subIn K (.ref C) (.type "BaseException") = some true) && (decide (PySem.W.typeIn K (.ref C) = some (.type "type")) && PySem.W.keepIn K (.ref C))))
def noAt (K : PySem.W.Frag) (C : Addr) (f : Str) : Bool := decide (PySem.W.findIn K (.ref C) f = some none)
def xcB (K : PySem.W.Frag) (C : Addr) : Bool := oexB K C && (xfB K C && (noAt K C "called" && (noAt K C "at" && (noAt K C "name" && noAt K C "what"))))
abbrev iniA (K : PySem.W.Frag) (n : Str) : Addr := He.ma K (He.ga K n) "__init__"
def cfB (K : PySem.W.Frag) (C : Addr) (m : Str) (u : Value) : Bool := match PySem.W.findCls K (.ref C) (.type "type") m with
  | some (.val v) => decide (v = u)
  | _ => false
def xclassB (K : PySem.W.Frag) (n : Str) : Bool := xcB K (He.ga K n) && (decide (PySem.W.findIn K (.ref (He.ga K n)) "__init__" = some (some (.ref (iniA K n)))) && (decide (PySem.W.typeIn K (.ref (iniA K n)) = some (.type "function")) &&
  (PySem.W.readsIn K (He.ga K n) (.type "type") && (decide (PySem.W.specialIn K (.ref (He.ga K n)) "__getattribute__" = some (some (.builtin "type.__getattribute__"))) &&
    cfB K (He.ga K n) "__init__" (.ref (iniA K n))))))
/-- n is caught by the first clause of these that it is under -/
def caughtB (K : PySem.W.Frag) (n : Str) : List Str → Bool
  | [] => false
  | c :: r => (match PySem.W.exmOne K (.ref (He.ga K n)) (.ref (He.ga K c)) with
    | some true => true
    | some false => caughtB K n r
    | none => false)
def asS (g : Addr → Option Obj) (n : Nat) : List Addr := He.asD g n ++ [PySem.cStatics]
abbrev frS (n : Nat) (g : Addr → Option Obj) : PySem.W.Frag := He.frT g (asS g n)
def obsS (n : Nat) (fa : List He.Fa) (fn : List He.DefD) (ts : List He.Tab) (tf : List He.Defn) (ex : PySem.W.Frag → Bool) (g : Addr → Option Obj) : He.AlX :=
  (He.obsT fa fn ts (frS n g), ex (frS n g) && He.tabsB g tf (frS n g))
theorem says_obsS {n : Nat} {fa : List He.Fa} {fn : List He.DefD} {ts : List He.Tab} {tf : List He.Defn} {ex : PySem.W.Frag → Bool} {w : World} {h : Heap} (e : obsS n fa fn ts tf ex h.get? = He.valX fn ts w) : He.SaysX fa fn ts tf ex w h (frS n h.get?) := by
  have a1 : He.obsT fa fn ts (frS n h.get?) = He.valT fn ts w := congrArg Prod.fst e
  have a2 : (ex (frS n h.get?) && He.tabsB h.get? tf (frS n h.get?)) = true := congrArg Prod.snd e
  obtain ⟨b1, b2⟩ := Bool.and_eq_true_iff.mp a2
  have tab : ∀ p ∈ tf, PySem.W.codeHdIn (frS n h.get?) (He.cT (frS n h.get?) p).1 (He.cT (frS n h.get?) p).2 = true ∧ ∃ o, h.get? (He.cT (frS n h.get?) p).2 = some o ∧ He.emptyTab o = true := by
    intro p hp
    obtain ⟨c1, c2⟩ := Bool.and_eq_true_iff.mp (List.all_eq_true.mp b2 p hp)
    refine ⟨c1, ?_⟩
    generalize h.get? (He.cT (frS n h.get?) p).2 = u at c2 ⊢
    cases u with
    | none => cases c2
    | some o => exact ⟨o, rfl, c2⟩
  refine ⟨a1, b1, fun p hp => (tab p hp).1, fun p hp => ?_, fun p hp => ?_⟩
  · obtain ⟨_, o, q, z⟩ := tab p hp
    exact He.frT_none q z
  · obtain ⟨_, o, q, z⟩ := tab p hp
    rw [q, He.emptyTab_eq z]
def hookS (n : Nat) (fa : List He.Fa) (fn : List He.DefD) (ts : List He.Tab) (tf : List He.Defn) (ex : PySem.W.Frag → Bool) : PySem.W.Hook where
  α := He.AlX
  obs := fun s => obsS n fa fn ts tf ex s.heap.get?
  val := fun w => He.valX fn ts w
  says := fun w h => ∃ K : PySem.W.Frag, K.In h ∧ He.SaysX fa fn ts tf ex w h K
  of := fun _ _ e => ⟨_, He.frT_in, says_obsS e⟩
  keeps := fun _ _ _ ⟨K, hK, c⟩ k => ⟨K, hK.keeps k, ⟨c.t, c.more, c.hd, c.out, fun p hp => k _ _ (c.empty p hp)⟩⟩
theorem obsS_eq {n : Nat} {fa : List He.Fa} {fn : List He.DefD} {ts : List He.Tab} {tf : List He.Defn} {ex : PySem.W.Frag → Bool} {g : Addr → Option Obj} {s : Shared} (h : ∀ a, g a = s.heap.get? a) : obsS n fa fn ts tf ex g = (hookS n fa fn ts tf ex).obs s := by
  rw [show g = s.heap.get? from funext h] <;> rfl
/-- the same looks, off a tree that is made of the heap's objects first -/
def treeHook (H : PySem.W.Hook) (ob : PySem.W.SharedT → H.α) (hob : ∀ s, ob s = H.obs s.abs) : PySem.W.Hook where
  α := Option H.α
  obs := fun s => (HandSHeadRun.putAll s.heap.objs.toList .nil 0).map fun r => ob ⟨r.1, r.2, s.heap.life, s.gens, s.drawn, s.toks, s.os⟩
  val := fun w => some (H.val w)
  says := H.says
  of := fun w s e => by
    obtain ⟨⟨T, n⟩, h1, h2⟩ := Option.map_eq_some_iff.mp e
    refine H.of w s ?_
    rw [hob] at h2
    have e2 : PySem.W.SharedT.abs ⟨T, n, s.heap.life, s.gens, s.drawn, s.toks, s.os⟩ = s := by
      show (⟨PySem.W.absHeap T n s.heap.life, s.gens, s.drawn, s.toks, s.os⟩ : Shared) = s
      rw [HandSHeadRun.putAll_heap h1]
    rw [e2] at h2
    exact h2
  keeps := H.keeps
end DL
namespace Lw
open PySem PySem.Spec PyProof.Rows L2
def top (i : Nat) : Stmt := PySem.Challenge.pw_calmcuts_k40_whole_each_square_has_one_t.main.body.getD i (.Pass ⟨0, 0, 0, 0⟩)
abbrev s_law_bag : Stmt := top 22
abbrev s_law_get : Stmt := top 23
abbrev s_law_weight : Stmt := top 31
abbrev s_law_weights : Stmt := top 32
abbrev s_law_parted : Stmt := top 37
abbrev s_law_gcd : Stmt := top 27
abbrev s_law_part : Stmt := top 28
abbrev s_law_plus : Stmt := top 29
abbrev s_law_times : Stmt := top 30
abbrev s_law_split : Stmt := top 35
abbrev s_law_turned_lean : Stmt := top 36
abbrev s_law_laid : Stmt := top 38
abbrev s_common : Stmt := top 9
abbrev s_part : Stmt := top 10
abbrev s_plus : Stmt := top 11
abbrev s_ends : Stmt := top 13
abbrev s_line_at : Stmt := top 18
abbrev s_lines_of : Stmt := top 19
abbrev s_is_whole : Stmt := top 8
abbrev s_is_size : Stmt := top 17
abbrev s_drawn : Stmt := top 20
abbrev s_law_pick : Stmt := top 24
abbrev s_law_sizes : Stmt := top 33
abbrev s_law_lean : Stmt := top 34
abbrev s_law_ask : Stmt := top 25
abbrev s_law_why : Stmt := top 26
abbrev s_law_ends : Stmt := top 39
abbrev s_law_names : Stmt := top 40
abbrev s_law_near_line : Stmt := top 41
abbrev s_law : Stmt := top 42
def cbody (s : Stmt) : List Stmt := match s with
  | .ClassDef _ _ _ b _ _ _ _ _ _ _ => b
  | _ => []
abbrev si_CutError : Stmt := (cbody (top 1)).getD 0 (.Pass ⟨0, 0, 0, 0⟩)
abbrev si_BadPart : Stmt := (cbody (top 4)).getD 0 (.Pass ⟨0, 0, 0, 0⟩)
abbrev si_BadBox : Stmt := (cbody (top 5)).getD 0 (.Pass ⟨0, 0, 0, 0⟩)
abbrev si_BadSizes : Stmt := (cbody (top 6)).getD 0 (.Pass ⟨0, 0, 0, 0⟩)
abbrev exL : List Str := ["BadPart", "BadBox", "BadSizes"]
def dd_law_bag : He.DefD := ⟨("_law_bag", none), "_law_bag", "_law_bag", defArgs s_law_bag, defBody s_law_bag, defScope s_law_bag, [], []⟩
def dd_law_get : He.DefD := ⟨("_law_get", none), "_law_get", "_law_get", defArgs s_law_get, defBody s_law_get, defScope s_law_get, [], []⟩
def dd_law_weight : He.DefD := ⟨("_law_weight", none), "_law_weight", "_law_weight", defArgs s_law_weight, defBody s_law_weight, defScope s_law_weight, [], []⟩
def dd_law_weights : He.DefD := ⟨("_law_weights", none), "_law_weights", "_law_weights", defArgs s_law_weights, defBody s_law_weights, defScope s_law_weights, [], []⟩
def dd_law_parted : He.DefD := ⟨("_law_parted", none), "_law_parted", "_law_parted", defArgs s_law_parted, defBody s_law_parted, defScope s_law_parted, [], []⟩
def dd_law_gcd : He.DefD := ⟨("_law_gcd", none), "_law_gcd", "_law_gcd", defArgs s_law_gcd, defBody s_law_gcd, defScope s_law_gcd, [], []⟩
def dd_law_part : He.DefD := ⟨("_law_part", none), "_law_part", "_law_part", defArgs s_law_part, defBody s_law_part, defScope s_law_part, [], []⟩
def dd_law_plus : He.DefD := ⟨("_law_plus", none), "_law_plus", "_law_plus", defArgs s_law_plus, defBody s_law_plus, defScope s_law_plus, [], []⟩
def dd_law_times : He.DefD := ⟨("_law_times", none), "_law_times", "_law_times", defArgs s_law_times, defBody s_law_times, defScope s_law_times, [], []⟩
def dd_law_split : He.DefD := ⟨("_law_split", none), "_law_split", "_law_split", defArgs s_law_split, defBody s_law_split, defScope s_law_split, [], []⟩
def dd_law_turned_lean : He.DefD := ⟨("_law_turned_lean", none), "_law_turned_lean", "_law_turned_lean", defArgs s_law_turned_lean, defBody s_law_turned_lean, defScope s_law_turned_lean, [], []⟩
def dd_law_laid : He.DefD := ⟨("_law_laid", none), "_law_laid", "_law_laid", defArgs s_law_laid, defBody s_law_laid, defScope s_law_laid, [], []⟩
def dd_common : He.DefD := ⟨("common", none), "common", "common", defArgs s_common, defBody s_common, defScope s_common, [], []⟩
def dd_part : He.DefD := ⟨("part", none), "part", "part", defArgs s_part, defBody s_part, defScope s_part, [], []⟩
def dd_plus : He.DefD := ⟨("plus", none), "plus", "plus", defArgs s_plus, defBody s_plus, defScope s_plus, [], []⟩
def dd_ends : He.DefD := ⟨("ends", none), "ends", "ends", defArgs s_ends, defBody s_ends, defScope s_ends, [], []⟩
def dd_line_at : He.DefD := ⟨("line_at", none), "line_at", "line_at", defArgs s_line_at, defBody s_line_at, defScope s_line_at, [], []⟩
def dd_lines_of : He.DefD := ⟨("lines_of", none), "lines_of", "lines_of", defArgs s_lines_of, defBody s_lines_of, defScope s_lines_of, [], []⟩
def dd_is_whole : He.DefD := ⟨("is_whole", none), "is_whole", "is_whole", defArgs s_is_whole, defBody s_is_whole, defScope s_is_whole, [], []⟩
def dd_is_size : He.DefD := ⟨("is_size", none), "is_size", "is_size", defArgs s_is_size, defBody s_is_size, defScope s_is_size, [], []⟩
def dd_drawn : He.DefD := ⟨("drawn", none), "drawn", "drawn", defArgs s_drawn, defBody s_drawn, defScope s_drawn, [], []⟩
def dd_law_pick : He.DefD := ⟨("_law_pick", none), "_law_pick", "_law_pick", defArgs s_law_pick, defBody s_law_pick, defScope s_law_pick, [], []⟩
def dd_law_sizes : He.DefD := ⟨("_law_sizes", none), "_law_sizes", "_law_sizes", defArgs s_law_sizes, defBody s_law_sizes, defScope s_law_sizes, [], []⟩
def dd_law_lean : He.DefD := ⟨("_law_lean", none), "_law_lean", "_law_lean", defArgs s_law_lean, defBody s_law_lean, defScope s_law_lean, [], []⟩
def dd_law_ask : He.DefD := ⟨("_law_ask", none), "_law_ask", "_law_ask", defArgs s_law_ask, defBody s_law_ask, defScope s_law_ask, [], []⟩
def dd_law_why : He.DefD := ⟨("_law_why", none), "_law_why", "_law_why", defArgs s_law_why, defBody s_law_why, defScope s_law_why, [], []⟩
def dd_law_ends : He.DefD := ⟨("_law_ends", none), "_law_ends", "_law_ends", defArgs s_law_ends, defBody s_law_ends, defScope s_law_ends, [], []⟩
def dd_law_names : He.DefD := ⟨("_law_names", none), "_law_names", "_law_names", defArgs s_law_names, defBody s_law_names, defScope s_law_names, [], []⟩
def dd_law_near_line : He.DefD := ⟨("_law_near_line", none), "_law_near_line", "_law_near_line", defArgs s_law_near_line, defBody s_law_near_line, defScope s_law_near_line, [], []⟩
def dd_law : He.DefD := ⟨("law", none), "law", "law", defArgs s_law, defBody s_law, defScope s_law, [], []⟩
def dd_i_CutError : He.DefD := ⟨("CutError", some "__init__"), "__init__", "CutError.__init__", defArgs si_CutError, defBody si_CutError, defScope si_CutError, [], []⟩
def dd_i_BadPart : He.DefD := ⟨("BadPart", some "__init__"), "__init__", "BadPart.__init__", defArgs si_BadPart, defBody si_BadPart, defScope si_BadPart, [], []⟩
def dd_i_BadBox : He.DefD := ⟨("BadBox", some "__init__"), "__init__", "BadBox.__init__", defArgs si_BadBox, defBody si_BadBox, defScope si_BadBox, [], []⟩
def dd_i_BadSizes : He.DefD := ⟨("BadSizes", some "__init__"), "__init__", "BadSizes.__init__", defArgs si_BadSizes, defBody si_BadSizes, defScope si_BadSizes, [], []⟩
def fnD : List He.DefD := [dd_law_bag, dd_law_get, dd_law_weight, dd_law_weights, dd_law_parted, dd_law_gcd, dd_law_part, dd_law_plus, dd_law_times, dd_law_split, dd_law_turned_lean, dd_law_laid, dd_common, dd_part, dd_plus, dd_ends, dd_line_at, dd_lines_of, dd_is_whole, dd_is_size, dd_drawn, dd_law_pick, dd_law_sizes, dd_law_lean, dd_law_ask, dd_law_why, dd_law_ends, dd_law_names, dd_law_near_line, dd_law, dd_i_CutError, dd_i_BadPart, dd_i_BadBox, dd_i_BadSizes]
def faD : List He.Fa := [.glo "_law_bag", .glo "_law_get", .glo "_law_weight", .glo "_law_weights", .glo "_law_parted", .glo "_law_gcd", .glo "_law_part", .glo "_law_plus", .glo "_law_times", .glo "_law_split", .glo "_law_turned_lean", .glo "_law_laid", .glo "common", .glo "part", .glo "plus", .glo "ends", .glo "line_at", .glo "lines_of", .glo "is_whole", .glo "is_size", .glo "drawn", .glo "_law_pick", .glo "_law_sizes", .glo "_law_lean", .glo "_law_ask", .glo "_law_why", .glo "_law_ends", .glo "_law_names", .glo "_law_near_line", .glo "law", .free "abs", .free "all", .free "any", .free "bool", .free "dict", .free "enumerate", .free "int", .free "isinstance", .free "len", .free "list", .free "max", .free "min", .free "range", .free "sum", .free "tuple", .free "zip", .int "MOST_SIZE" 1000, .int "MOST_SQUARES" 40, .glo "CutError", .glo "Missing", .glo "NothingLeft", .glo "BadPart", .glo "BadBox", .glo "BadSizes", .free "ValueError"]
abbrev R : PySem.W.OpenRow := PySem.W.OpenLaw.row PySem.Challenge.rw_calmcuts_k40_whole_each_square_has_one_t
def tfD : List He.Defn := [("law", none)]
def exB (K : PySem.W.Frag) : Bool := ((["CutError", "BadPart", "BadBox", "BadSizes"] : List Str).all fun n => DL.xclassB K n) && ((exL.all fun n => DL.caughtB K n ["CutError", "Missing", "NothingLeft"] && (L2.xfB K (He.ga K n) && DL.noAt K (He.ga K n) "called")) && decide ((tfD.map fun p => (He.cT K p).2).Nodup))
abbrev hk : PySem.W.Hook := DL.hookS 4 faD fnD [] tfD exB
def ob (s : PySem.W.SharedT) : He.AlX := DL.obsS 4 faD fnD [] tfD exB (HandSHeadRun.getT s)
theorem ob_eq (s : PySem.W.SharedT) : ob s = hk.obs s.abs := DL.obsS_eq (HandSHeadRun.getT_eq s)
abbrev hk2 : PySem.W.Hook := DL.treeHook hk ob ob_eq
end Lw
namespace DL
open PySem L2
inductive D where
  | non | bl (b : Bool) | int (i : Int) | str (x : Str)
  | tup (xs : List D) | lst (xs : List D) | dic (kvs : List (Key × D)) | dct (kvs : List (List Key × D))
  | ins (c : Str) (fs : List (Str × D)) | xcp (a dd : Addr) (c : Str) (fs : List (Str × D))
  | opq (v : V)
def Ex (H H' : Hp) : Prop := ∀ a o, H a = some o → H' a = some o
theorem Ex.refl (H : Hp) : Ex H H := fun _ _ h => h
theorem Ex.trans {H H1 H2 : Hp} (a : Ex H H1) (b : Ex H1 H2) : Ex H H2 := fun x o h => b x o (a x o h)
theorem Ex.new {H : Hp} {p : Addr} {o : HO} (h : H p = none) : Ex H (upd H p o) := fun a u e => by
  rw [upd_ne (ne_of_none e h)]; exact e
theorem Ex.back {H H' : Hp} {p : Addr} (e : Ex H H') (h : H' p = none) : H p = none := by
  cases h1 : H p with
  | none => rfl
  | some o => rw [e p o h1] at h; cases h
theorem ex_rd {H H' : Hp} {a : Addr} {u : HO} (e : Ex H H') (h : Rd H a u) : Rd H' a u := by
  rcases h with h | ⟨o, h⟩
  · exact Or.inl (e a _ h)
  · exact Or.inr ⟨o, e a _ h⟩
theorem ex_l {K : PySem.W.Frag} {H H' : Hp} {a : Addr} {xs : List V} (e : Ex H H') (h : SqL K H a xs) : SqL K H' a xs := by
  rcases h with h | h
  · exact Or.inl (ex_rd e h)
  · exact Or.inr h
theorem ex_t {K : PySem.W.Frag} {H H' : Hp} {a : Addr} {xs : List V} (e : Ex H H') (h : SqT K H a xs) : SqT K H' a xs := by
  rcases h with h | h
  · exact Or.inl (ex_rd e h)
  · exact Or.inr h
mutual
inductive Rep (K : PySem.W.Frag) (G : Hp) : V → D → Prop
  | non : Rep K G .non .non
  | bl (b : Bool) : Rep K G (.bl b) (.bl b)
  | int (i : Int) : Rep K G (.int i) (.int i)
  | str (x : Str) : Rep K G (.str x) (.str x)
  | opq (v : V) : Rep K G v (.opq v)
  | lst {a : Addr} {xs : List V} {ds : List D} : SqL K G a xs → RepL K G xs ds → Rep K G (.ref a) (.lst ds)
  | tup {a : Addr} {xs : List V} {ds : List D} : SqT K G a xs → RepL K G xs ds → Rep K G (.ref a) (.tup ds)
  | dic {a : Addr} {o : Obj} {xs : List (Key × V)} {ds : List (Key × D)} : G a = some (.frz o (.dK xs)) → RepK K G xs ds → Rep K G (.ref a) (.dic ds)
  | dct {a : Addr} {o : Obj} {xs : List (List Key × V)} {ds : List (List Key × D)} : G a = some (.frz o (.dT xs)) → RepT K G xs ds → Rep K G (.ref a) (.dct ds)
  | ins {a dx : Addr} {c : Str} {xs : List (Str × V)} {fs : List (Str × D)} : G a = some (.ins (He.ga K c) dx xs) → G dx = some (.own a) → RepF K G xs fs → Rep K G (.ref a) (.ins c fs)
  | xcp {a dd : Addr} {c : Str} {xs : List (Str × V)} {fs : List (Str × D)} : G dd = some (.xd xs) → RepX K G xs fs → Rep K G (.ref a) (.xcp a dd c fs)
inductive RepL (K : PySem.W.Frag) (G : Hp) : List V → List D → Prop
  | nil : RepL K G [] []
  | cons {v : V} {vs : List V} {d : D} {ds : List D} : Rep K G v d → RepL K G vs ds → RepL K G (v :: vs) (d :: ds)
inductive RepK (K : PySem.W.Frag) (G : Hp) : List (Key × V) → List (Key × D) → Prop
  | nil : RepK K G [] []
  | cons {k : Key} {v : V} {vs : List (Key × V)} {d : D} {ds : List (Key × D)} : Rep K G v d → RepK K G vs ds → RepK K G ((k, v) :: vs) ((k, d) :: ds)
inductive RepT (K : PySem.W.Frag) (G : Hp) : List (List Key × V) → List (List Key × D) → Prop
  | nil : RepT K G [] []
  | cons {k : List Key} {v : V} {vs : List (List Key × V)} {d : D} {ds : List (List Key × D)} : Rep K G v d → RepT K G vs ds → RepT K G ((k, v) :: vs) ((k, d) :: ds)
/-- fields, one by one -/
inductive RepF (K : PySem.W.Frag) (G : Hp) : List (Str × V) → List (Str × D) → Prop
  | nil : RepF K G [] []
  | cons {k : Str} {v : V} {vs : List (Str × V)} {d : D} {ds : List (Str × D)} : Rep K G v d → RepF K G vs ds → RepF K G ((k, v) :: vs) ((k, d) :: ds)
/-- some fields, by name -/
inductive RepX (K : PySem.W.Frag) (G : Hp) : List (Str × V) → List (Str × D) → Prop
  | nil {vs : List (Str × V)} : RepX K G vs []
  | cons {k : Str} {v : V} {vs : List (Str × V)} {d : D} {ds : List (Str × D)} : vs.lookup k = some v → Rep K G v d → RepX K G vs ds → RepX K G vs ((k, d) :: ds)
end
mutual
theorem Rep.mono {K : PySem.W.Frag} {G G' : Hp} (e : Ex G G') : ∀ {v : V} {d : D}, Rep K G v d → Rep K G' v d
  | _, _, .non => .non
  | _, _, .bl b => .bl b
  | _, _, .int i => .int i
  | _, _, .str x => .str x
  | _, _, .opq v => .opq v
  | _, _, .lst h r => .lst (ex_l e h) (r.mono e)
  | _, _, .tup h r => .tup (ex_t e h) (r.mono e)
  | _, _, .dic h r => .dic (e _ _ h) (r.mono e)
  | _, _, .dct h r => .dct (e _ _ h) (r.mono e)
  | _, _, .ins h q r => .ins (e _ _ h) (e _ _ q) (r.mono e)
  | _, _, .xcp h r => .xcp (e _ _ h) (r.mono e)
theorem RepL.mono {K : PySem.W.Frag} {G G' : Hp} (e : Ex G G') : ∀ {vs : List V} {ds : List D}, RepL K G vs ds → RepL K G' vs ds
  | _, _, .nil => .nil
  | _, _, .cons h r => .cons (h.mono e) (r.mono e)
theorem RepK.mono {K : PySem.W.Frag} {G G' : Hp} (e : Ex G G') : ∀ {vs : List (Key × V)} {ds : List (Key × D)}, RepK K G vs ds → RepK K G' vs ds
  | _, _, .nil => .nil
  | _, _, .cons h r => .cons (h.mono e) (r.mono e)
theorem RepT.mono {K : PySem.W.Frag} {G G' : Hp} (e : Ex G G') : ∀ {vs : List (List Key × V)} {ds : List (List Key × D)}, RepT K G vs ds → RepT K G' vs ds
  | _, _, .nil => .nil
  | _, _, .cons h r => .cons (h.mono e) (r.mono e)
theorem RepF.mono {K : PySem.W.Frag} {G G' : Hp} (e : Ex G G') : ∀ {vs : List (Str × V)} {ds : List (Str × D)}, RepF K G vs ds → RepF K G' vs ds
  | _, _, .nil => .nil
  | _, _, .cons h r => .cons (h.mono e) (r.mono e)
theorem RepX.mono {K : PySem.W.Frag} {G G' : Hp} (e : Ex G G') : ∀ {vs : List (Str × V)} {ds : List (Str × D)}, RepX K G vs ds → RepX K G' vs ds
  | _, _, .nil => .nil
  | _, _, .cons q h r => .cons q (h.mono e) (r.mono e)
end
theorem RepX.get {K : PySem.W.Frag} {G : Hp} : ∀ {vs : List (Str × V)} {ds : List (Str × D)} {f : Str} {y : D}, RepX K G vs ds → ds.lookup f = some y → ∃ v, vs.lookup f = some v ∧ Rep K G v y
  | _, _, f, y, .nil, e => by cases e
  | _, (k, d) :: ds, f, y, .cons q h r, e => by
    by_cases z : f = k
    · subst z
      simp only [List.lookup, beq_self_eq_true, Option.some.injEq] at e
      subst e
      exact ⟨_, q, h⟩
    · have z2 : (f == k) = false := beq_false_of_ne z
      simp only [List.lookup, z2] at e
      exact r.get e
theorem RepF.get {K : PySem.W.Frag} {G : Hp} : ∀ {vs : List (Str × V)} {ds : List (Str × D)} {f : Str} {y : D}, RepF K G vs ds → ds.lookup f = some y → ∃ v, vs.lookup f = some v ∧ Rep K G v y
  | _, _, f, y, .nil, e => by cases e
  | (_, v) :: vs, (k, d) :: ds, f, y, .cons h r, e => by
    by_cases z : f = k
    · subst z
      simp only [List.lookup, beq_self_eq_true, Option.some.injEq] at e ⊢
      subst e
      exact ⟨_, rfl, h⟩
    · have z2 : (f == k) = false := beq_false_of_ne z
      simp only [List.lookup, z2] at e ⊢
      exact r.get e
theorem RepF.none {K : PySem.W.Frag} {G : Hp} : ∀ {vs : List (Str × V)} {ds : List (Str × D)} {f : Str}, RepF K G vs ds → ds.lookup f = none → vs.lookup f = none
  | _, _, f, .nil, _ => rfl
  | (_, v) :: vs, (k, d) :: ds, f, .cons h r, e => by
    by_cases z : f = k
    · subst z
      simp [List.lookup] at e
    · have z2 : (f == k) = false := beq_false_of_ne z
      simp only [List.lookup, z2] at e ⊢
      exact r.none e
theorem RepL.length {K : PySem.W.Frag} {G : Hp} : ∀ {vs : List V} {ds : List D}, RepL K G vs ds → vs.length = ds.length
  | _, _, .nil => rfl
  | _, _, .cons _ r => congrArg Nat.succ r.length
theorem RepL.get {K : PySem.W.Frag} {G : Hp} : ∀ {vs : List V} {ds : List D} {i : Nat} {d : D}, RepL K G vs ds → ds[i]? = some d → ∃ v, vs[i]? = some v ∧ Rep K G v d
  | _, _, _, _, .nil, e => by simp at e
  | _, _, 0, _, .cons h _, e => by simp at e; subst e; exact ⟨_, rfl, h⟩
  | _, _, i + 1, d, .cons _ r, e => by
    obtain ⟨u, h1, h2⟩ := RepL.get (i := i) (d := d) r (by simpa using e)
    exact ⟨u, by simpa using h1, h2⟩
theorem RepL.append {K : PySem.W.Frag} {G : Hp} : ∀ {vs ws : List V} {ds es : List D}, RepL K G vs ds → RepL K G ws es → RepL K G (vs ++ ws) (ds ++ es)
  | _, _, _, _, .nil, s => s
  | _, _, _, _, .cons h r, s => .cons h (r.append s)
theorem RepL.take {K : PySem.W.Frag} {G : Hp} : ∀ {vs : List V} {ds : List D} (n : Nat), RepL K G vs ds → RepL K G (vs.take n) (ds.take n)
  | _, _, 0, _ => by simp; exact .nil
  | _, _, _ + 1, .nil => .nil
  | _, _, n + 1, .cons h r => .cons h (r.take n)
theorem RepL.drop {K : PySem.W.Frag} {G : Hp} : ∀ {vs : List V} {ds : List D} (n : Nat), RepL K G vs ds → RepL K G (vs.drop n) (ds.drop n)
  | _, _, 0, r => r
  | _, _, _ + 1, .nil => .nil
  | _, _, n + 1, .cons _ r => r.drop n
theorem RepL.set {K : PySem.W.Frag} {G : Hp} {v : V} {d : D} (h : Rep K G v d) : ∀ {vs : List V} {ds : List D} (n : Nat), RepL K G vs ds → RepL K G (vs.set n v) (ds.set n d)
  | _, _, _, .nil => .nil
  | _, _, 0, .cons _ r => .cons h r
  | _, _, n + 1, .cons q r => .cons q (r.set h n)
theorem RepL.intsL {K : PySem.W.Frag} {G : Hp} : ∀ {vs : List V} (ns : List Int), RepL K G vs (ns.map D.int) → vs = ns.map V.int
  | _, [], .nil => rfl
  | _, n :: ns, .cons h r => by
    cases h
    rw [List.map_cons, RepL.intsL ns r]
theorem RepL.ofInts {K : PySem.W.Frag} {G : Hp} : ∀ (ns : List Int), RepL K G (ns.map V.int) (ns.map D.int)
  | [] => .nil
  | n :: ns => .cons (.int n) (RepL.ofInts ns)
theorem RepL.bls {K : PySem.W.Frag} {G : Hp} : ∀ {vs : List V} (ns : List Bool), RepL K G vs (ns.map D.bl) → vs = ns.map V.bl
  | _, [], .nil => rfl
  | _, n :: ns, .cons h r => by
    cases h
    rw [List.map_cons, RepL.bls ns r]
inductive MO where
  | lst (ds : List D) | dic (kvs : List (Key × D)) | dct (kvs : List (List Key × D))
  | tbl (q : Str) | ins (c : Str) (dx : Addr) (fs : List (Str × D))
abbrev Cs := List (Addr × MO)
def adr (cs : Cs) : List Addr := cs.map (·.1)
def pur (F : Hp) (cs : Cs) (H : Hp) : Hp := fun b => if (F b).isSome = true ∨ b ∈ adr cs then none else H b
def MoOk (K : PySem.W.Frag) (G : Hp) : MO → HO → Prop
  | .lst ds, .lst vs => RepL K G vs ds
  | .dic ds, .dK vs => RepK K G vs ds
  | .dct ds, .dT vs => RepT K G vs ds
  | .tbl q, .tbl ps => TriplesOk ps.toList ∧ ∀ (pos : Pos) (cv : Value), codeAmong pos ps.toList = some cv → ∃ c, cv = .ref c ∧ G c = some (LamX.CodeO c q)
  | _, _ => False
theorem MoOk.mono {K : PySem.W.Frag} {G G' : Hp} (e : Ex G G') : ∀ {m : MO} {o : HO}, MoOk K G m o → MoOk K G' m o := by
  intro m o h
  cases m <;> cases o <;> first | exact h.elim | exact RepL.mono e h | exact RepK.mono e h | exact RepT.mono e h | exact ⟨h.1, fun pos cv hc => by
    obtain ⟨c, e1, e2⟩ := h.2 pos cv hc
    exact ⟨c, e1, e _ _ e2⟩⟩
structure Sta (K : PySem.W.Frag) (F G0 : Hp) (cs : Cs) (H : Hp) : Prop where
  fr : Ex F H
  gr : Ex G0 (pur F cs H)
  nd : (adr cs).Nodup
  ap : ∀ a ∈ adr cs, F a = none
  ow : ∀ a m, (a, m) ∈ cs → ∃ o, H a = some o ∧ MoOk K (pur F cs H) m o
  ft : ∀ a xs, F a ≠ some (.tup xs)
section
variable {K : PySem.W.Frag} {F G G0 G1 H H1 H' : Hp} {cs cs1 cs' : Cs} {p : Addr} {o : HO} {m : MO}
theorem Sta.self (s : Sta K F G0 cs H) : Sta K F (pur F cs H) cs H := ⟨s.fr, Ex.refl _, s.nd, s.ap, s.ow, s.ft⟩
theorem Sta.from_ (s : Sta K F G1 cs H) (e : Ex G0 G1) : Sta K F G0 cs H := ⟨s.fr, e.trans s.gr, s.nd, s.ap, s.ow, s.ft⟩
theorem pur_of {b : Addr} {u : HO} (h : pur F cs H b = some u) : H b = some u ∧ F b = none ∧ b ∉ adr cs := by
  unfold pur at h
  split at h
  · cases h
  · rename_i q
    refine ⟨h, ?_, fun z => q (.inr z)⟩
    cases e : F b with
    | none => rfl
    | some x => exact absurd (Or.inl (by rw [e]; rfl)) q
theorem pur_at {b : Addr} (h1 : F b = none) (h2 : b ∉ adr cs) : pur F cs H b = H b := by
  unfold pur
  rw [if_neg]
  rintro (z | z)
  · rw [h1] at z; cases z
  · exact h2 z
/-- a new thing that never changes -/
theorem Sta.new (s : Sta K F G0 cs H) (h : H p = none) : Sta K F (pur F cs H) cs (upd H p o) ∧ pur F cs (upd H p o) p = some o := by
  have hF : F p = none := s.fr.back h
  have hc : p ∉ adr cs := fun z => by
    obtain ⟨⟨a, m⟩, hm, e⟩ := List.mem_map.mp z
    obtain ⟨u, hu, _⟩ := s.ow a m hm
    have e' : a = p := e
    rw [e', h] at hu; cases hu
  have g : Ex (pur F cs H) (pur F cs (upd H p o)) := fun b u e => by
    obtain ⟨e1, e2, e3⟩ := pur_of e
    rw [pur_at e2 e3, upd_ne (ne_of_none e1 h)]; exact e1
  refine ⟨⟨s.fr.trans (Ex.new h), g, s.nd, s.ap, fun a m hm => ?_, s.ft⟩, by rw [pur_at hF hc, upd_same]⟩
  obtain ⟨u, hu, q⟩ := s.ow a m hm
  exact ⟨u, by rw [upd_ne (ne_of_none hu h)]; exact hu, q.mono g⟩
theorem Sta.notin (s : Sta K F G0 cs H) (h : H p = none) : F p = none ∧ p ∉ adr cs := by
  refine ⟨s.fr.back h, fun z => ?_⟩
  obtain ⟨⟨a, m⟩, hm, e⟩ := List.mem_map.mp z
  obtain ⟨u, hu, _⟩ := s.ow a m hm
  have e' : a = p := e
  rw [e', h] at hu; cases hu
/-- a new thing that may change -/
theorem Sta.newM (s : Sta K F G0 cs H) (h : H p = none) (q : MoOk K (pur F cs H) m o) : Sta K F (pur F cs H) ((p, m) :: cs) (upd H p o) := by
  obtain ⟨hF, hc⟩ := s.notin h
  have g : Ex (pur F cs H) (pur F ((p, m) :: cs) (upd H p o)) := fun b u e => by
    obtain ⟨e1, e2, e3⟩ := pur_of e
    have hb : b ≠ p := ne_of_none e1 h
    rw [pur_at e2 (by show b ∉ p :: adr cs; simp [hb, e3]), upd_ne hb]; exact e1
  refine ⟨s.fr.trans (Ex.new h), g, ?_, ?_, ?_, s.ft⟩
  · show (p :: adr cs).Nodup
    exact List.nodup_cons.mpr ⟨hc, s.nd⟩
  · intro a ha
    rcases List.mem_cons.mp (show a ∈ p :: adr cs from ha) with e | e
    · rw [e]; exact hF
    · exact s.ap a e
  · intro a m' hm
    rcases List.mem_cons.mp hm with e | e
    · cases e
      exact ⟨o, upd_same, q.mono g⟩
    · obtain ⟨u, hu, r⟩ := s.ow a m' e
      exact ⟨u, by rw [upd_ne (ne_of_none hu h)]; exact hu, r.mono g⟩
/-- the content of p replaced -/
def put (p : Addr) (m : MO) : Cs → Cs
  | [] => []
  | (a, x) :: r => if a = p then (a, m) :: r else (a, x) :: put p m r
def look (p : Addr) : Cs → Option MO
  | [] => none
  | (a, x) :: r => if a = p then some x else look p r
theorem adr_put (p : Addr) (m : MO) : ∀ cs : Cs, adr (put p m cs) = adr cs
  | [] => rfl
  | (a, x) :: r => by
    unfold put
    split
    · rfl
    · show a :: adr (put p m r) = a :: adr r
      rw [adr_put p m r]
theorem look_mem {p : Addr} {m : MO} : ∀ {cs : Cs}, look p cs = some m → (p, m) ∈ cs
  | [], h => by cases h
  | (a, x) :: r, h => by
    unfold look at h
    split at h
    · rename_i e
      cases h; cases e
      exact List.mem_cons_self ..
    · exact List.mem_cons_of_mem _ (look_mem h)
theorem look_put {p : Addr} {m m' : MO} : ∀ {cs : Cs}, look p cs = some m → look p (put p m' cs) = some m'
  | [], h => by cases h
  | (a, x) :: r, h => by
    unfold look at h
    unfold put
    split at h
    · rename_i e
      rw [if_pos e]
      unfold look
      rw [if_pos e]
    · rename_i e
      rw [if_neg e]
      unfold look
      rw [if_neg e]
      exact look_put h
theorem look_put_ne {p q : Addr} {m : MO} (hn : q ≠ p) : ∀ {cs : Cs}, look q (put p m cs) = look q cs
  | [] => rfl
  | (a, x) :: r => by
    unfold put
    split
    · rename_i e
      unfold look
      rw [if_neg (fun z => hn (z.symm.trans e)), if_neg (fun z => hn (z.symm.trans e))]
    · unfold look
      rw [look_put_ne hn]
theorem put_put {p : Addr} {m m' : MO} : ∀ {cs : Cs}, put p m' (put p m cs) = put p m' cs
  | [] => rfl
  | (a, x) :: r => by
    by_cases e : a = p
    · have e1 : put p m ((a, x) :: r) = (a, m) :: r := by simp [put, e]
      have e2 : put p m' ((a, x) :: r) = (a, m') :: r := by simp [put, e]
      rw [e1, e2]; simp [put, e]
    · have e1 : put p m ((a, x) :: r) = (a, x) :: put p m r := by simp [put, e]
      have e2 : put p m' ((a, x) :: r) = (a, x) :: put p m' r := by simp [put, e]
      rw [e1, e2]
      have ih := put_put (p := p) (m := m) (m' := m') (cs := r)
      simp [put, e, ih]
theorem mem_put {p a : Addr} {m x : MO} : ∀ {cs : Cs}, (adr cs).Nodup → (a, x) ∈ put p m cs → (a = p ∧ x = m) ∨ (a ≠ p ∧ (a, x) ∈ cs)
  | [], _, h => by cases h
  | (b, y) :: r, nd, h => by
    have nd' : (b :: adr r).Nodup := nd
    obtain ⟨n1, n2⟩ := List.nodup_cons.mp nd'
    unfold put at h
    split at h
    · rename_i e
      rcases List.mem_cons.mp h with q | q
      · cases q; exact .inl ⟨e, rfl⟩
      · refine .inr ⟨fun z => n1 ?_, List.mem_cons_of_mem _ q⟩
        rw [e, ← z]; exact List.mem_map.mpr ⟨(a, x), q, rfl⟩
    · rename_i e
      rcases List.mem_cons.mp h with q | q
      · cases q; exact .inr ⟨e, List.mem_cons_self ..⟩
      · rcases mem_put n2 q with z | z
        · exact .inl z
        · exact .inr ⟨z.1, List.mem_cons_of_mem _ z.2⟩
theorem Sta.put (s : Sta K F G0 cs H) (hl : look p cs = some m) {m' : MO} {o' : HO} (q : MoOk K (pur F cs H) m' o') : Sta K F (pur F cs H) (put p m' cs) (upd H p o') := by
  have hp : p ∈ adr cs := List.mem_map.mpr ⟨(p, m), look_mem hl, rfl⟩
  have hF := s.ap p hp
  have e : pur F (DL.put p m' cs) (upd H p o') = pur F cs H := by
    funext b
    unfold pur
    rw [adr_put]
    by_cases hb : b = p
    · subst hb
      rw [if_pos (.inr hp), if_pos (.inr hp)]
    · rw [upd_ne hb]
  refine ⟨fun b u h => ?_, by rw [e]; exact Ex.refl _, by rw [adr_put]; exact s.nd, by rw [adr_put]; exact s.ap, fun a x hx => ?_, s.ft⟩
  · rw [upd_ne (fun z => by rw [z, hF] at h; cases h)]; exact s.fr b u h
  · rw [e]
    rcases mem_put s.nd hx with ⟨e1, e2⟩ | ⟨e1, e2⟩
    · subst e1 e2; exact ⟨o', upd_same, q⟩
    · obtain ⟨u, hu, r⟩ := s.ow a x e2
      exact ⟨u, by rw [upd_ne e1]; exact hu, r⟩
theorem Sta.look (s : Sta K F G0 cs H) (hl : DL.look p cs = some m) : ∃ o, H p = some o ∧ MoOk K (pur F cs H) m o := s.ow p m (look_mem hl)
end
abbrev Env := List (Option D)
structure Exn where
  cls : Str
  fs : List (Str × D)
abbrev XZ := Exn → Cs → Prop
abbrev DP := D → Cs → Prop
abbrev WE := Env → Cs → DP → XZ → Prop
abbrev WT := Env → Cs → (Bool → Cs → Prop) → XZ → Prop
abbrev WA := Env → Cs → (List D → Cs → Prop) → XZ → Prop
structure Fin where
  nx : Env → Cs → Prop
  rt : D → Cs → Prop
  ex : Exn → Env → Cs → Prop := fun _ _ _ => False
  bk : Env → Cs → Prop := fun _ _ => False
  ct : Env → Cs → Prop := fun _ _ => False
abbrev WS := Fin → Env → Cs → Prop
inductive RepO (K : PySem.W.Frag) (G : Hp) : Option V → Option D → Prop
  | skip {o : Option V} : RepO K G o none
  | held {v : V} {d : D} : Rep K G v d → RepO K G (some v) (some d)
inductive RepE (K : PySem.W.Frag) (G : Hp) : St → Env → Prop
  | nil : RepE K G [] []
  | cons {v : Option V} {d : Option D} {σ : St} {ρ : Env} : RepO K G v d → RepE K G σ ρ → RepE K G (v :: σ) (d :: ρ)
section
variable {K : PySem.W.Frag} {G G' : Hp}
theorem RepO.mono (e : Ex G G') {v : Option V} {d : Option D} : RepO K G v d → RepO K G' v d
  | .skip => .skip
  | .held h => .held (h.mono e)
theorem RepE.mono (e : Ex G G') : ∀ {σ : St} {ρ : Env}, RepE K G σ ρ → RepE K G' σ ρ
  | _, _, .nil => .nil
  | _, _, .cons h r => .cons (h.mono e) (r.mono e)
theorem RepE.get : ∀ {σ : St} {ρ : Env} {i : Nat} {d : D}, RepE K G σ ρ → ρ[i]? = some (some d) → ∃ v, σ[i]? = some (some v) ∧ Rep K G v d
  | _, _, _, _, .nil, e => by simp at e
  | _, _, 0, _, .cons h _, e => by
    simp at e; subst e
    cases h with
    | held h => exact ⟨_, rfl, h⟩
  | _, _, i + 1, d, .cons _ r, e => by
    obtain ⟨u, h1, h2⟩ := RepE.get (i := i) (d := d) r (by simpa using e)
    exact ⟨u, by simpa using h1, h2⟩
theorem RepE.set {v : V} {d : D} (h : Rep K G v d) : ∀ {σ : St} {ρ : Env} (i : Nat), RepE K G σ ρ → RepE K G (σ.set i (some v)) (ρ.set i (some d))
  | _, _, _, .nil => .nil
  | _, _, 0, .cons _ r => .cons (.held h) r
  | _, _, i + 1, .cons q r => .cons q (r.set h i)
theorem RepE.start : ∀ {vs : List V} {ds : List D} (n : Nat), RepL K G vs ds → RepE K G (vs.map some ++ List.replicate n none) (ds.map some ++ List.replicate n none)
  | _, _, n, .nil => by
    induction n with
    | zero => exact .nil
    | succ n ih => exact .cons .skip ih
  | _, _, n, .cons h r => .cons (.held h) (RepE.start n r)
end
/-- an exception's dict -/
def XR (K : PySem.W.Frag) (G : Hp) (d : Option Addr) (fs : List (Str × D)) : Prop := ∃ a xs, d = some a ∧ G a = some (.xd xs) ∧ RepX K G xs fs
theorem XR.mono {K : PySem.W.Frag} {G G' : Hp} {d : Option Addr} {fs : List (Str × D)} (h : XR K G d fs) (e : Ex G G') : XR K G' d fs := by
  obtain ⟨a, xs, e1, e2, e3⟩ := h
  exact ⟨a, xs, e1, e _ _ e2, e3.mono e⟩
/-- what is due behind: by value, by exception -/
def PostE (K : PySem.W.Frag) (F G : Hp) (P : DP) (Q : VK) : Prop := ∀ H' cs' v d, Sta K F G cs' H' → Rep K (pur F cs' H') v d → P d cs' → Q v H'
def PostX (K : PySem.W.Frag) (F G : Hp) (Z : XZ) (W : Value → Option Addr → Hp → Prop) : Prop := ∀ H' cs' x d, Sta K F G cs' H' → XR K (pur F cs' H') d x.fs → Z x cs' → W (.ref (He.ga K x.cls)) d H'
theorem PostE.le {K : PySem.W.Frag} {F G G' : Hp} {P : DP} {Q : VK} (h : PostE K F G P Q) (e : Ex G G') : PostE K F G' P Q := fun H' cs' v d s r p => h H' cs' v d (s.from_ e) r p
theorem PostX.le {K : PySem.W.Frag} {F G G' : Hp} {Z : XZ} {W : Value → Option Addr → Hp → Prop} (h : PostX K F G Z W) (e : Ex G G') : PostX K F G' Z W := fun H' cs' x d s r p => h H' cs' x d (s.from_ e) r p
def lE (K : PySem.W.Frag) (W : WX) (w : WE) : TE := fun σ H Q => ∃ F cs ρ P Z, Sta K F (pur F cs H) cs H ∧ RepE K (pur F cs H) σ ρ ∧ w ρ cs P Z ∧ PostE K F (pur F cs H) P Q ∧ PostX K F (pur F cs H) Z fun c d H' => W c d σ H'
def lT (K : PySem.W.Frag) (W : WX) (w : WT) : TT := fun σ H Q => ∃ F cs ρ P Z, Sta K F (pur F cs H) cs H ∧ RepE K (pur F cs H) σ ρ ∧ w ρ cs P Z ∧ (∀ H' cs' b, Sta K F (pur F cs H) cs' H' → P b cs' → Q b H') ∧ PostX K F (pur F cs H) Z fun c d H' => W c d σ H'
def lA (K : PySem.W.Frag) (W : WX) (n : Nat) (w : WA) : TA := fun σ H Q => ∃ F cs ρ P Z, Sta K F (pur F cs H) cs H ∧ RepE K (pur F cs H) σ ρ ∧ w ρ cs P Z ∧
  (∀ H' cs' vs ds, Sta K F (pur F cs H) cs' H' → RepL K (pur F cs' H') vs ds → ds.length = n → P ds cs' → Q vs H') ∧ PostX K F (pur F cs H) Z fun c d H' => W c d σ H'
structure PostS (K : PySem.W.Frag) (F G : Hp) (W : WX) (f : Fin) (E : Ends) : Prop where
  nx : ∀ H' cs' σ' ρ', Sta K F G cs' H' → RepE K (pur F cs' H') σ' ρ' → f.nx ρ' cs' → E.nx σ' H'
  bk : ∀ H' cs' σ' ρ', Sta K F G cs' H' → RepE K (pur F cs' H') σ' ρ' → f.bk ρ' cs' → E.bk σ' H'
  ct : ∀ H' cs' σ' ρ', Sta K F G cs' H' → RepE K (pur F cs' H') σ' ρ' → f.ct ρ' cs' → E.ct σ' H'
  rt : PostE K F G f.rt E.rt
  ex : ∀ H' cs' σ' ρ' x d, Sta K F G cs' H' → RepE K (pur F cs' H') σ' ρ' → XR K (pur F cs' H') d x.fs → f.ex x ρ' cs' → W (.ref (He.ga K x.cls)) d σ' H'
theorem PostS.le {K : PySem.W.Frag} {F G G' : Hp} {W : WX} {f : Fin} {E : Ends} (h : PostS K F G W f E) (e : Ex G G') : PostS K F G' W f E :=
  ⟨fun H' cs' σ' ρ' s => h.nx H' cs' σ' ρ' (s.from_ e), fun H' cs' σ' ρ' s => h.bk H' cs' σ' ρ' (s.from_ e), fun H' cs' σ' ρ' s => h.ct H' cs' σ' ρ' (s.from_ e), h.rt.le e, fun H' cs' σ' ρ' x d s => h.ex H' cs' σ' ρ' x d (s.from_ e)⟩
def lS (K : PySem.W.Frag) (W : WX) (w : WS) : TS := fun E σ H => ∃ F cs ρ f, Sta K F (pur F cs H) cs H ∧ RepE K (pur F cs H) σ ρ ∧ w f ρ cs ∧ PostS K F (pur F cs H) W f E
abbrev DE (X : Cx) (W : WX) (e : Expr) (w : WE) : Prop := PE X e (lE X.K W w)
abbrev DT (X : Cx) (W : WX) (e : Expr) (w : WT) : Prop := PT X e (lT X.K W w)
abbrev DW (X : Cx) (W : WX) (e : Expr) (w : WT) : Prop := PW X e (lT X.K W w)
abbrev DA (X : Cx) (W : WX) (es : List Expr) (w : WA) : Prop := PA X es (lA X.K W es.length w)
abbrev DS (X : Cx) (W : WX) (st : Stmt) (w : WS) : Prop := PS X st (lS X.K W w)
abbrev DSs (X : Cx) (W : WX) (st : List Stmt) (w : WS) : Prop := PSs X st (lS X.K W w)
theorem PE.imp {X : Cx} {e : Expr} {t t' : TE} (h : PE X e t) (i : ∀ σ H Q, t' σ H Q → t σ H Q) : PE X e t' := ⟨fun pins s σ H Q I q => h.run pins s σ H Q I (i σ H Q q)⟩
theorem PT.imp {X : Cx} {e : Expr} {t t' : TT} (h : PT X e t) (i : ∀ σ H Q, t' σ H Q → t σ H Q) : PT X e t' := ⟨fun pins s σ H Q I q => h.run pins s σ H Q I (i σ H Q q)⟩
theorem PW.imp {X : Cx} {e : Expr} {t t' : TT} (h : PW X e t) (i : ∀ σ H Q, t' σ H Q → t σ H Q) : PW X e t' := ⟨fun wh pins s σ H Q I q => h.run wh pins s σ H Q I (i σ H Q q)⟩
theorem PA.imp {X : Cx} {e : List Expr} {t t' : TA} (h : PA X e t) (i : ∀ σ H Q, t' σ H Q → t σ H Q) : PA X e t' := ⟨fun pos pins s σ H Q I q => h.run pos pins s σ H Q I (i σ H Q q)⟩
theorem PS.imp {X : Cx} {st : Stmt} {t t' : TS} (h : PS X st t) (i : ∀ E σ H, t' E σ H → t E σ H) : PS X st t' := ⟨fun pins s σ H E I q => h.run pins s σ H E I (i E σ H q)⟩
theorem PSs.imp {X : Cx} {st : List Stmt} {t t' : TS} (h : PSs X st t) (i : ∀ E σ H, t' E σ H → t E σ H) : PSs X st t' := ⟨fun pins s σ H E I q => h.run pins s σ H E I (i E σ H q)⟩
end DL
namespace DL
open PySem L2
section
variable {X : Cx} {W : WX} {K : PySem.W.Frag} {σ : St} {H : Hp}
def wVar (i : Nat) : WE := fun ρ cs P _ => match ρ[i]? with
  | some (some d) => P d cs
  | _ => False
theorem d_var (i : Nat) {x : Str} {pos : Pos} (hN : X.N[i]? = some x := by rfl) (hv : Vis X.env.scope x := by first | exact Or.inl rfl | exact Or.inr (Or.inl rfl) | exact Or.inr (Or.inr rfl)) (hd : (x == ("__debug__" : Str)) = false := by decide)
    (hcd : (x == ("__classdict__" : Str)) = false := by decide) : DE X W (.Name x pos) (wVar i) :=
  PE.imp (pe_var (i := i) hN hv hd hcd) fun σ H Q ⟨F, cs, ρ, P, Z, s, re, hw, pe, px⟩ => by
    unfold wVar at hw
    split at hw
    · rename_i d e
      obtain ⟨v, h1, h2⟩ := re.get e
      exact ⟨v, h1, pe H cs v d s h2 hw⟩
    · exact hw.elim
def wC (d : D) : WE := fun _ cs P _ => P d cs
theorem d_of {e : Expr} {v : V} {d : D} (h : PE X e (tC v)) (r : ∀ G, Rep X.K G v d) : DE X W e (wC d) :=
  PE.imp h fun σ H Q ⟨F, cs, ρ, P, Z, s, re, hw, pe, px⟩ => pe H cs v d s (r _) hw
theorem d_int {i j pos} : DE X W (.Constant (.int i) j pos) (wC (.int i)) := d_of pe_int fun _ => .int _
theorem d_bl {b j pos} : DE X W (.Constant (.bool b) j pos) (wC (.bl b)) := d_of pe_bl fun _ => .bl _
theorem d_non {j pos} : DE X W (.Constant .none j pos) (wC .non) := d_of pe_non fun _ => .non
theorem d_str {x j pos} : DE X W (.Constant (.str x) j pos) (wC (.str x)) := d_of pe_str fun _ => .str _
abbrev DO2 := D → D → Cs → DP → Prop
def Adq (K : PySem.W.Frag) (r : R2) (o : DO2) : Prop := ∀ F cs H x y dx dy P Q, Sta K F (pur F cs H) cs H → Rep K (pur F cs H) x dx → Rep K (pur F cs H) y dy → o dx dy cs P → PostE K F (pur F cs H) P Q → r x y H Q
def wOp (o : DO2) (wa wb : WE) : WE := fun ρ cs P Z => wa ρ cs (fun x cs1 => wb ρ cs1 (fun y cs2 => o x y cs2 P) Z) Z
theorem bin_ok {r : R2} {o : DO2} {wa wb : WE} (adq : Adq K r o) {Q : VK} : lE K W (wOp o wa wb) σ H Q → tOp r (lE K W wa) (lE K W wb) σ H Q := by
  rintro ⟨F, cs, ρ, P, Z, s, re, hw, pe, px⟩
  refine ⟨F, cs, ρ, _, Z, s, re, hw, fun H1 cs1 v d s1 r1 h1 => ?_, px⟩
  refine ⟨F, cs1, ρ, _, Z, s1.self, re.mono s1.gr, h1, fun H2 cs2 v2 d2 s2 r2 h2 => ?_, px.le s1.gr⟩
  exact adq F cs2 H2 v v2 d d2 P Q s2.self (r1.mono s2.gr) r2 h2 (pe.le (s1.gr.trans s2.gr))
theorem d_op {op : Operator} {r : R2} {o : DO2} {a b : Expr} {wa wb : WE} {pos : Pos} (ho : OpR X (binaryOp op) r) (adq : Adq X.K r o) (ha : DE X W a wa) (hb : DE X W b wb) : DE X W (.BinOp a op b pos) (wOp o wa wb) :=
  PE.imp (pe_op ho ha hb) fun _ _ _ h => bin_ok adq h
theorem d_cmp {op : CmpOp} {r : R2} {o : DO2} {a b : Expr} {wa wb : WE} {pos : Pos} (ho : OpR X (compareOp op) r) (adq : Adq X.K r o) (ha : DE X W a wa) (hb : DE X W b wb) (hm : behindInMarks op b = false) : DE X W (.Compare a [op] [b] pos) (wOp o wa wb) :=
  PE.imp (pe_cmpR ho ha hb hm) fun _ _ _ h => bin_ok adq h
theorem d_ix {r : R2} {o : DO2} {a b : Expr} {wa wb : WE} {pos : Pos} (ho : IxR X r) (adq : Adq X.K r o) (ha : DE X W a wa) (hb : DE X W b wb) (hs : PlainIx b := by intro _ _; rfl) : DE X W (.Subscript a b pos) (wOp o wa wb) :=
  PE.imp (pe_ix ho ha hb hs) fun _ _ _ h => bin_ok adq h
def oI (g : Int → Int → D) : DO2 := fun x y cs P => match x, y with
  | .int i, .int j => P (g i j) cs
  | _, _ => False
def oIC (C : Int → Int → Prop) (g : Int → Int → D) : DO2 := fun x y cs P => match x, y with
  | .int i, .int j => C i j ∧ P (g i j) cs
  | _, _ => False
theorem adq_I0 {g : Int → Int → V} {g' : Int → Int → D} (h : ∀ i j G, Rep K G (g i j) (g' i j)) : Adq K (rI0 g) (oI g') := fun F cs H x y dx dy P Q s rx ry ho pe => by
  unfold oI at ho
  split at ho
  · cases rx; cases ry; exact ⟨_, _, rfl, rfl, pe H cs _ _ s (h _ _ _) ho⟩
  · exact ho.elim
theorem adq_I {C : Int → Int → Prop} {g : Int → Int → V} {g' : Int → Int → D} (h : ∀ i j G, Rep K G (g i j) (g' i j)) : Adq K (rI C g) (oIC C g') := fun F cs H x y dx dy P Q s rx ry ho pe => by
  unfold oIC at ho
  split at ho
  · cases rx; cases ry; exact ⟨_, _, rfl, rfl, ho.1, pe H cs _ _ s (h _ _ _) ho.2⟩
  · exact ho.elim
theorem op_mulX : OpR X (binaryOp .Mult) (rI IntMulOk fun i j => .int (i * j)) := opI fun _ _ _ _ _ _ _ hc q => PyProof.Rows.mul_int q hc
variable {a b : Expr} {wa wb : WE} {pos : Pos}
def oAdd : DO2 := oI fun i j => .int (i + j)
def oSub : DO2 := oI fun i j => .int (i - j)
def oMul : DO2 := oIC IntMulOk fun i j => .int (i * j)
def oDiv : DO2 := oIC CDivW fun i j => .int (i / j)
def oMod : DO2 := oIC (fun _ j => 0 < j) fun i j => .int (i % j)
def oPow : DO2 := oIC CPow fun i j => .int (i ^ j.toNat)
theorem d_add (ha : DE X W a wa) (hb : DE X W b wb) : DE X W (.BinOp a .Add b pos) (wOp oAdd wa wb) := d_op op_add (adq_I0 fun _ _ _ => .int _) ha hb
theorem d_sub (ha : DE X W a wa) (hb : DE X W b wb) : DE X W (.BinOp a .Sub b pos) (wOp oSub wa wb) := d_op op_sub (adq_I0 fun _ _ _ => .int _) ha hb
theorem d_mul (ha : DE X W a wa) (hb : DE X W b wb) : DE X W (.BinOp a .Mult b pos) (wOp oMul wa wb) := d_op op_mulX (adq_I fun _ _ _ => .int _) ha hb
theorem d_fdiv (ha : DE X W a wa) (hb : DE X W b wb) : DE X W (.BinOp a .FloorDiv b pos) (wOp oDiv wa wb) := d_op op_fdivW (adq_I fun _ _ _ => .int _) ha hb
theorem d_mod (ha : DE X W a wa) (hb : DE X W b wb) : DE X W (.BinOp a .Mod b pos) (wOp oMod wa wb) := d_op op_mod (adq_I fun _ _ _ => .int _) ha hb
theorem d_pow (ha : DE X W a wa) (hb : DE X W b wb) : DE X W (.BinOp a .Pow b pos) (wOp oPow wa wb) := d_op op_pow (adq_I fun _ _ _ => .int _) ha hb
def oLt : DO2 := oI fun i j => .bl (decide (i < j))
def oLe : DO2 := oI fun i j => .bl (decide (i ≤ j))
def oGt : DO2 := oI fun i j => .bl (decide (j < i))
def oGe : DO2 := oI fun i j => .bl (decide (j ≤ i))
theorem d_le (ha : DE X W a wa) (hb : DE X W b wb) : DE X W (.Compare a [.LtE] [b] pos) (wOp oLe wa wb) := d_cmp op_le (adq_I0 fun _ _ _ => .bl _) ha hb (nomark _)
def wUn (o : D → Cs → DP → Prop) (wa : WE) : WE := fun ρ cs P Z => wa ρ cs (fun x cs1 => o x cs1 P) Z
def oNeg : D → Cs → DP → Prop := fun x cs P => match x with
  | .int i => P (.int (-i)) cs
  | _ => False
theorem oNeg_inv {x : D} {cs : Cs} {P : DP} (h : oNeg x cs P) : ∃ i, x = .int i ∧ P (.int (-i)) cs := by
  cases x <;> first | exact h.elim | exact ⟨_, rfl, h⟩
theorem d_neg (ha : DE X W a wa) : DE X W (.UnaryOp .USub a pos) (wUn oNeg wa) := PE.imp (pe_un un_neg ha) fun σ H Q ⟨F, cs, ρ, P, Z, s, re, hw, pe, px⟩ =>
  ⟨F, cs, ρ, _, Z, s, re, hw, fun H1 cs1 v d s1 r1 h1 => by
    obtain ⟨i, rfl, h⟩ := oNeg_inv h1
    cases r1
    exact ⟨_, rfl, pe H1 cs1 _ _ s1 (.int _) h⟩, px⟩
mutual
def pyD : D → PyData
  | .bl b => .bool b
  | .int i => .int i
  | .str x => .str x
  | .tup xs => .tuple (pyL xs)
  | .lst xs => .list (pyL xs)
  | .non | .dic _ | .dct _ | .opq _ | .ins _ _ | .xcp _ _ _ _ => .none
def pyL : List D → List PyData
  | [] => []
  | d :: ds => pyD d :: pyL ds
end
mutual
/-- plain data: no dict, nothing opaque, at most n levels of lists and tuples -/
def plD : Nat → D → Bool
  | n + 1, .tup xs => decide (xs.length ≤ 100000) && plL n xs
  | n + 1, .lst xs => decide (xs.length ≤ 100000) && plL n xs
  | _, .non | _, .bl _ | _, .int _ | _, .str _ => true
  | _, _ => false
def plL : Nat → List D → Bool
  | _, [] => true
  | n, d :: ds => plD n d && plL n ds
end
theorem plD_t {n : Nat} {xs : List D} (h : plD (n + 1) (.tup xs) = true) : plL n xs = true := by
  simp only [plD, Bool.and_eq_true] at h; exact h.2
theorem plD_l {n : Nat} {xs : List D} (h : plD (n + 1) (.lst xs) = true) : plL n xs = true := by
  simp only [plD, Bool.and_eq_true] at h; exact h.2
theorem plD_tI {n : Nat} {xs : List D} (h : plL n xs = true) (hl : xs.length ≤ 100000) : plD (n + 1) (.tup xs) = true := by
  simp only [plD, Bool.and_eq_true, decide_eq_true_eq]; exact ⟨hl, h⟩
theorem plD_lI {n : Nat} {xs : List D} (h : plL n xs = true) (hl : xs.length ≤ 100000) : plD (n + 1) (.lst xs) = true := by
  simp only [plD, Bool.and_eq_true, decide_eq_true_eq]; exact ⟨hl, h⟩
mutual
def eqD : D → D → Bool
  | .non, .non => true
  | .bl a, .bl b => a == b
  | .bl a, .int j => (if a then 1 else 0) == j
  | .int i, .bl b => i == (if b then 1 else 0)
  | .int i, .int j => i == j
  | .str x, .str y => x == y
  | .lst xs, .lst ys => eqL xs ys
  | .tup xs, .tup ys => eqL xs ys
  | _, _ => false
def eqL : List D → List D → Bool
  | [], [] => true
  | x :: xs, y :: ys => eqD x y && eqL xs ys
  | _, _ => false
end
mutual
theorem plD_plain : ∀ (d : D) (n : Nat), plD n d = true → (pyD d).plain = true ∧ (pyD d).depth ≤ n
  | .non, n, _ => ⟨by simp [pyD, PyData.plain], by simp [pyD, PyData.depth]⟩
  | .bl _, n, _ => ⟨by simp [pyD, PyData.plain], by simp [pyD, PyData.depth]⟩
  | .int _, n, _ => ⟨by simp [pyD, PyData.plain], by simp [pyD, PyData.depth]⟩
  | .str _, n, _ => ⟨by simp [pyD, PyData.plain], by simp [pyD, PyData.depth]⟩
  | .tup xs, 0, h => by simp [plD] at h
  | .lst xs, 0, h => by simp [plD] at h
  | .tup xs, n + 1, h => by
    have h' := plL_plain xs n (plD_t h)
    simp only [pyD, PyData.plain, PyData.depth]
    exact ⟨h'.1, Nat.succ_le_succ h'.2⟩
  | .lst xs, n + 1, h => by
    have h' := plL_plain xs n (plD_l h)
    simp only [pyD, PyData.plain, PyData.depth]
    exact ⟨h'.1, Nat.succ_le_succ h'.2⟩
  | .dic _, n, h => by cases n <;> simp [plD] at h
  | .dct _, n, h => by cases n <;> simp [plD] at h
  | .ins _ _, n, h => by cases n <;> simp [plD] at h
  | .xcp _ _ _ _, n, h => by cases n <;> simp [plD] at h
  | .opq _, n, h => by cases n <;> simp [plD] at h
theorem plL_plain : ∀ (ds : List D) (n : Nat), plL n ds = true → PyData.plainAll (pyL ds) = true ∧ PyData.depthAll (pyL ds) ≤ n
  | [], n, _ => ⟨by simp [pyL, PyData.plainAll], by simp [pyL, PyData.depthAll]⟩
  | d :: ds, n, h => by
    simp only [plL, Bool.and_eq_true] at h
    have h1 := plD_plain d n h.1
    have h2 := plL_plain ds n h.2
    simp only [pyL, PyData.plainAll, PyData.depthAll, Bool.and_eq_true]
    exact ⟨⟨h1.1, h2.1⟩, Nat.max_le.mpr ⟨h1.2, h2.2⟩⟩
end
mutual
theorem eqD_eqv : ∀ (d e : D) (n m : Nat), plD n d = true → plD m e = true → PyData.eqv (pyD d) (pyD e) = eqD d e := by
  intro d e n m hd he
  cases d <;> cases e <;> first
    | (simp [pyD, PyData.eqv, eqD]; done)
    | (cases n <;> simp [plD] at hd; done)
    | (cases m <;> simp [plD] at he; done)
    | (cases n with
       | zero => simp [plD] at hd
       | succ n => cases m with
         | zero => simp [plD] at he
         | succ m => simp only [pyD, PyData.eqv, eqD]; exact eqL_eqv _ _ n m (by first | exact plD_t hd | exact plD_l hd) (by first | exact plD_t he | exact plD_l he))
theorem eqL_eqv : ∀ (d e : List D) (n m : Nat), plL n d = true → plL m e = true → PyData.eqvAll (pyL d) (pyL e) = eqL d e
  | [], [], _, _, _, _ => by simp [pyL, PyData.eqvAll, eqL]
  | [], _ :: _, _, _, _, _ => by simp [pyL, PyData.eqvAll, eqL]
  | _ :: _, [], _, _, _, _ => by simp [pyL, PyData.eqvAll, eqL]
  | d :: ds, e :: es, n, m, hd, he => by
    simp only [plL, Bool.and_eq_true] at hd he
    simp only [pyL, PyData.eqvAll, eqL]
    rw [eqD_eqv d e n m hd.1 he.1, eqL_eqv ds es n m hd.2 he.2]
end
mutual
theorem Rep.dp {G : Hp} (e : Ex G H) : ∀ {v : V} {d : D} (n : Nat), Rep K G v d → plD n d = true → Dp K H v (pyD d)
  | _, _, n, .non, _ => .non
  | _, _, n, .bl b, _ => .bl b
  | _, _, n, .int i, _ => .int i
  | _, _, n, .str x, _ => .str x
  | _, _, n, .opq v, h => by cases n <;> simp [plD] at h
  | _, _, 0, .lst h r, p => by simp [plD] at p
  | _, _, 0, .tup h r, p => by simp [plD] at p
  | _, _, n + 1, .lst h r, p => by
    simp only [pyD]
    exact .lst (ex_l e h) (RepL.dp e n r (plD_l p))
  | _, _, n + 1, .tup h r, p => by
    simp only [pyD]
    exact .tup (ex_t e h) (RepL.dp e n r (plD_t p))
  | _, _, n, .dic _ _, h => by cases n <;> simp [plD] at h
  | _, _, n, .dct _ _, h => by cases n <;> simp [plD] at h
  | _, _, n, .ins _ _ _, h => by cases n <;> simp [plD] at h
  | _, _, n, .xcp _ _, h => by cases n <;> simp [plD] at h
theorem RepL.dp {G : Hp} (e : Ex G H) : ∀ {v : List V} {d : List D} (n : Nat), RepL K G v d → plL n d = true → DpAll K H v (pyL d)
  | _, _, _, .nil, _ => by simp only [pyL]; exact .nil
  | _, _, n, .cons h r, p => by
    simp only [plL, Bool.and_eq_true] at p
    simp only [pyL]
    exact .cons (Rep.dp e n h p.1) (RepL.dp e n r p.2)
end
theorem pur_le {F : Hp} {cs : Cs} : Ex (pur F cs H) H := fun _ _ h => (pur_of h).1
/-- x == y of plain data -/
def oEq : DO2 := fun x y cs P => plD 20 x = true ∧ plD 20 y = true ∧ P (.bl (eqD x y)) cs
def oNe : DO2 := fun x y cs P => plD 20 x = true ∧ plD 20 y = true ∧ P (.bl (!eqD x y)) cs
def rEqP (K : PySem.W.Frag) : R2 := fun x y H Q => ∃ d e, Dp K H x d ∧ Dp K H y e ∧ d.plain = true ∧ e.plain = true ∧ d.depth ≤ 64 ∧ Q (.bl (PyData.eqv d e)) H
def rNeP (K : PySem.W.Frag) : R2 := fun x y H Q => ∃ d e, Dp K H x d ∧ Dp K H y e ∧ d.plain = true ∧ e.plain = true ∧ d.depth ≤ 64 ∧ Q (.bl (!PyData.eqv d e)) H
theorem room_plain {A : Around} {da db : PyData} (h : da.depth ≤ 64) (hu : A.units + 64 < cLine) : A.units + min da.depth db.depth < cLine := by
  have h2 : min da.depth db.depth ≤ da.depth := Nat.min_le_left _ _
  omega
theorem op_eqP (hu : X.A.units + 64 < cLine) : OpR X (compareOp .Eq) (rEqP X.K) := by
  intro pins s σ H x y v u Q I rx ry h
  obtain ⟨d, e, hd, he, p1, p2, p3, q⟩ := h
  obtain ⟨as, r1⟩ := Dp.reads I d x v hd rx
  obtain ⟨bs, r2⟩ := Dp.reads I e y u he ry
  exact PySem.SeqAt.eq_plain r1 r2 p1 p2 (room_plain p3 hu) ⟨.bl _, H, I, rfl, q⟩
theorem op_neP (hu : X.A.units + 64 < cLine) : OpR X (compareOp .NotEq) (rNeP X.K) := by
  intro pins s σ H x y v u Q I rx ry h
  obtain ⟨d, e, hd, he, p1, p2, p3, q⟩ := h
  obtain ⟨as, r1⟩ := Dp.reads I d x v hd rx
  obtain ⟨bs, r2⟩ := Dp.reads I e y u he ry
  exact PySem.SeqAt.ne_plain r1 r2 p1 p2 (room_plain p3 hu) ⟨.bl _, H, I, rfl, q⟩
theorem adq_eq : Adq K (rEqP K) oEq := fun F cs H x y dx dy P Q s rx ry ho pe => by
  obtain ⟨p1, p2, h⟩ := ho
  have a1 := plD_plain dx 20 p1
  have a2 := plD_plain dy 20 p2
  refine ⟨_, _, Rep.dp pur_le 20 rx p1, Rep.dp pur_le 20 ry p2, a1.1, a2.1, Nat.le_trans a1.2 (by decide), ?_⟩
  rw [eqD_eqv dx dy 20 20 p1 p2]
  exact pe H cs _ _ s (.bl _) h
theorem adq_ne : Adq K (rNeP K) oNe := fun F cs H x y dx dy P Q s rx ry ho pe => by
  obtain ⟨p1, p2, h⟩ := ho
  have a1 := plD_plain dx 20 p1
  have a2 := plD_plain dy 20 p2
  refine ⟨_, _, Rep.dp pur_le 20 rx p1, Rep.dp pur_le 20 ry p2, a1.1, a2.1, Nat.le_trans a1.2 (by decide), ?_⟩
  rw [eqD_eqv dx dy 20 20 p1 p2]
  exact pe H cs _ _ s (.bl _) h
theorem d_eq (hu : X.A.units + 64 < cLine) (ha : DE X W a wa) (hb : DE X W b wb) : DE X W (.Compare a [.Eq] [b] pos) (wOp oEq wa wb) := d_cmp (op_eqP hu) adq_eq ha hb (nomark _)
theorem d_ne (hu : X.A.units + 64 < cLine) (ha : DE X W a wa) (hb : DE X W b wb) : DE X W (.Compare a [.NotEq] [b] pos) (wOp oNe wa wb) := d_cmp (op_neP hu) adq_ne ha hb (nomark _)
def atD (xs : List D) (i : Int) : Option D := atI xs i
def oIx : DO2 := fun x y cs P => match x, y with
  | .tup xs, .int i => (match atD xs i with
    | some d => P d cs
    | none => False)
  | .lst xs, .int i => (match atD xs i with
    | some d => P d cs
    | none => False)
  | _, _ => False
theorem RepL.atI {G : Hp} {vs : List V} {ds : List D} {i : Int} {d : D} (r : RepL K G vs ds) (h : atI ds i = some d) : ∃ v, atI vs i = some v ∧ Rep K G v d := by
  unfold L2.atI at h ⊢
  rw [r.length]
  cases e : ixN ds.length i with
  | none => rw [e] at h; cases h
  | some j =>
    rw [e] at h
    exact r.get h
theorem adq_ix : Adq K (rIx K) oIx := fun F cs H x y dx dy P Q s rx ry ho pe => by
  unfold oIx at ho
  split at ho
  · rename_i xs i
    cases ry
    cases rx with
    | tup h r =>
      split at ho
      · rename_i d e
        obtain ⟨v, e1, e2⟩ := r.atI e
        exact .inr (.inl ⟨_, _, _, v, rfl, rfl, ex_t pur_le h, e1, pe H cs _ _ s e2 ho⟩)
      · exact ho.elim
  · rename_i xs i
    cases ry
    cases rx with
    | lst h r =>
      split at ho
      · rename_i d e
        obtain ⟨v, e1, e2⟩ := r.atI e
        exact .inl ⟨_, _, _, v, rfl, rfl, ex_l pur_le h, e1, pe H cs _ _ s e2 ho⟩
      · exact ho.elim
  · exact ho.elim
theorem d_sub_ix (ha : DE X W a wa) (hb : DE X W b wb) (hs : PlainIx b := by intro _ _; rfl) : DE X W (.Subscript a b pos) (wOp oIx wa wb) := d_ix ix_seq adq_ix ha hb hs
end
end DL
namespace DL
open PySem L2
section
variable {X : Cx} {W : WX} {K : PySem.W.Frag} {σ : St} {H : Hp} {a b c : Expr} {wa wb wc : WE} {pos : Pos}
def wTest (wa : WE) : WT := fun ρ cs P Z => wa ρ cs (fun x cs1 => match x with
  | .bl k => P k cs1
  | _ => False) Z
theorem test_inv {x : D} {cs : Cs} {P : Bool → Cs → Prop} (h : (match x with | D.bl k => P k cs | _ => False)) : ∃ k, x = .bl k ∧ P k cs := by
  cases x <;> first | exact h.elim | exact ⟨_, rfl, h⟩
/-- a comparison as a test -/
theorem dt_cmp {op : CmpOp} {r : R2} {o : DO2} (ho : OpR X (compareOp op) r) (adq : Adq X.K r o) (ha : DE X W a wa) (hb : DE X W b wb) (hm : behindInMarks op b = false) : DT X W (.Compare a [op] [b] pos) (wTest (wOp o wa wb)) :=
  PT.imp (pt_cmpR ho ha hb hm) fun σ H Q h => by
    obtain ⟨F, cs, ρ, P, Z, s, re, hw, pe, px⟩ := h
    have h2 : lE X.K W (wOp o wa wb) σ H (fun x H' => ∃ k, x = V.bl k ∧ Q k H') := ⟨F, cs, ρ, _, Z, s, re, hw, fun H1 cs1 v d s1 r1 h1 => by
      obtain ⟨k, rfl, h⟩ := test_inv h1
      cases r1
      exact ⟨k, rfl, pe H1 cs1 k s1 h⟩, px⟩
    exact bin_ok adq h2
theorem dt_lt (ha : DE X W a wa) (hb : DE X W b wb) : DT X W (.Compare a [.Lt] [b] pos) (wTest (wOp oLt wa wb)) := dt_cmp op_lt (adq_I0 fun _ _ _ => .bl _) ha hb (nomark _)
theorem dt_gt (ha : DE X W a wa) (hb : DE X W b wb) : DT X W (.Compare a [.Gt] [b] pos) (wTest (wOp oGt wa wb)) := dt_cmp op_gt (adq_I0 fun _ _ _ => .bl _) ha hb (nomark _)
theorem dt_ge (ha : DE X W a wa) (hb : DE X W b wb) : DT X W (.Compare a [.GtE] [b] pos) (wTest (wOp oGe wa wb)) := dt_cmp op_ge (adq_I0 fun _ _ _ => .bl _) ha hb (nomark _)
theorem dt_eq (hu : X.A.units + 64 < cLine) (ha : DE X W a wa) (hb : DE X W b wb) : DT X W (.Compare a [.Eq] [b] pos) (wTest (wOp oEq wa wb)) := dt_cmp (op_eqP hu) adq_eq ha hb (nomark _)
theorem dt_ne (hu : X.A.units + 64 < cLine) (ha : DE X W a wa) (hb : DE X W b wb) : DT X W (.Compare a [.NotEq] [b] pos) (wTest (wOp oNe wa wb)) := dt_cmp (op_neP hu) adq_ne ha hb (nomark _)
/-- an expression that gives a truth value, as a test -/
theorem dt_val {e : Expr} {w : WE} (h : DE X W e w) (he : ∀ whole, isTrue e X.env whole = (do let v ← whole; standAt e.pos; holding [v] (truthy v)) := by intro _; rfl) : DT X W e (wTest w) :=
  PT.imp (pt_val h he) fun σ H Q h => by
    obtain ⟨F, cs, ρ, P, Z, s, re, hw, pe, px⟩ := h
    refine ⟨F, cs, ρ, _, Z, s, re, hw, fun H1 cs1 v d s1 r1 h1 => ?_, px⟩
    obtain ⟨k, rfl, h⟩ := test_inv h1
    cases r1
    exact ⟨k, rfl, pe H1 cs1 k s1 h⟩
variable {ta tb : WT} {rest : List Expr}
def wAnd (ta tb : WT) : WT := fun ρ cs P Z => ta ρ cs (fun k cs1 => (k = true → tb ρ cs1 P Z) ∧ (k = false → P false cs1)) Z
def wOr (ta tb : WT) : WT := fun ρ cs P Z => ta ρ cs (fun k cs1 => (k = true → P true cs1) ∧ (k = false → tb ρ cs1 P Z)) Z
def wNot (ta : WT) : WT := fun ρ cs P Z => ta ρ cs (fun k cs1 => P (!k) cs1) Z
theorem dw_and1 (ha : DT X W a ta) : DW X W (.BoolOp .And [a] pos) ta := pw_and1 ha
theorem dw_or1 (ha : DT X W a ta) : DW X W (.BoolOp .Or [a] pos) ta := pw_or1 ha
theorem dw_and (ha : DT X W a ta) (hb : DW X W (.BoolOp .And (b :: rest) pos) tb) : DW X W (.BoolOp .And (a :: b :: rest) pos) (wAnd ta tb) :=
  PW.imp (pw_and ha hb) fun σ H Q h => by
    obtain ⟨F, cs, ρ, P, Z, s, re, hw, pe, px⟩ := h
    refine ⟨F, cs, ρ, _, Z, s, re, hw, fun H1 cs1 k s1 h1 => ?_, px⟩
    cases k with
    | true => exact iteT ⟨F, cs1, ρ, P, Z, s1.self, re.mono s1.gr, h1.1 rfl, fun H2 cs2 k s2 h2 => pe H2 cs2 k (s2.from_ s1.gr) h2, px.le s1.gr⟩
    | false => exact iteF (pe H1 cs1 false s1 (h1.2 rfl))
theorem dw_or (ha : DT X W a ta) (hb : DW X W (.BoolOp .Or (b :: rest) pos) tb) : DW X W (.BoolOp .Or (a :: b :: rest) pos) (wOr ta tb) :=
  PW.imp (pw_or ha hb) fun σ H Q h => by
    obtain ⟨F, cs, ρ, P, Z, s, re, hw, pe, px⟩ := h
    refine ⟨F, cs, ρ, _, Z, s, re, hw, fun H1 cs1 k s1 h1 => ?_, px⟩
    cases k with
    | false => exact iteF ⟨F, cs1, ρ, P, Z, s1.self, re.mono s1.gr, h1.2 rfl, fun H2 cs2 k s2 h2 => pe H2 cs2 k (s2.from_ s1.gr) h2, px.le s1.gr⟩
    | true => exact iteT (pe H1 cs1 true s1 (h1.1 rfl))
theorem dt_w {e : Expr} (h : DW X W e ta) : DT X W e ta := h.pt
theorem dt_not (ha : DT X W a ta) : DT X W (.UnaryOp .Not a pos) (wNot ta) :=
  PT.imp (pt_not ha) fun σ H Q h => by
    obtain ⟨F, cs, ρ, P, Z, s, re, hw, pe, px⟩ := h
    exact ⟨F, cs, ρ, _, Z, s, re, hw, fun H1 cs1 k s1 h1 => pe H1 cs1 _ s1 h1, px⟩
/-- as values -/
def wAndV (wa wb : WE) : WE := fun ρ cs P Z => wa ρ cs (fun x cs1 => match x with
  | .bl k => (k = true → wb ρ cs1 P Z) ∧ (k = false → P (.bl false) cs1)
  | _ => False) Z
def wOrV (wa wb : WE) : WE := fun ρ cs P Z => wa ρ cs (fun x cs1 => match x with
  | .bl k => (k = true → P (.bl true) cs1) ∧ (k = false → wb ρ cs1 P Z)
  | _ => False) Z
def wNotV (wa : WE) : WE := fun ρ cs P Z => wa ρ cs (fun x cs1 => match x with
  | .bl k => P (.bl (!k)) cs1
  | _ => False) Z
theorem d_one {op} (h : DE X W a wa) : DE X W (.BoolOp op [a] pos) wa := pe_one h
theorem d_and (ha : DE X W a wa) (hb : DE X W (.BoolOp .And (b :: rest) pos) wb) : DE X W (.BoolOp .And (a :: b :: rest) pos) (wAndV wa wb) :=
  PE.imp (pe_and ha hb) fun σ H Q h => by
    obtain ⟨F, cs, ρ, P, Z, s, re, hw, pe, px⟩ := h
    refine ⟨F, cs, ρ, _, Z, s, re, hw, fun H1 cs1 v d s1 r1 h1 => ?_, px⟩
    cases d <;> try exact h1.elim
    rename_i k
    cases r1
    cases k with
    | true => exact ⟨true, rfl, iteT ⟨F, cs1, ρ, P, Z, s1.self, re.mono s1.gr, h1.1 rfl, pe.le s1.gr, px.le s1.gr⟩⟩
    | false => exact ⟨false, rfl, iteF (pe H1 cs1 _ _ s1 (.bl _) (h1.2 rfl))⟩
theorem d_not (ha : DE X W a wa) : DE X W (.UnaryOp .Not a pos) (wNotV wa) :=
  PE.imp (pe_not ha) fun σ H Q h => by
    obtain ⟨F, cs, ρ, P, Z, s, re, hw, pe, px⟩ := h
    refine ⟨F, cs, ρ, _, Z, s, re, hw, fun H1 cs1 v d s1 r1 h1 => ?_, px⟩
    cases d <;> try exact h1.elim
    rename_i k
    cases r1
    exact ⟨k, rfl, pe H1 cs1 _ _ s1 (.bl _) h1⟩
def wIf (t : WT) (wa wb : WE) : WE := fun ρ cs P Z => t ρ cs (fun k cs1 => (k = true → wa ρ cs1 P Z) ∧ (k = false → wb ρ cs1 P Z)) Z
theorem d_if (hc : DT X W c ta) (ha : DE X W a wa) (hb : DE X W b wb) : DE X W (.IfExp c a b pos) (wIf ta wa wb) :=
  PE.imp (pe_ifExp hc ha hb) fun σ H Q h => by
    obtain ⟨F, cs, ρ, P, Z, s, re, hw, pe, px⟩ := h
    refine ⟨F, cs, ρ, _, Z, s, re, hw, fun H1 cs1 k s1 h1 => ?_, px⟩
    cases k with
    | true => exact iteT ⟨F, cs1, ρ, P, Z, s1.self, re.mono s1.gr, h1.1 rfl, pe.le s1.gr, px.le s1.gr⟩
    | false => exact iteF ⟨F, cs1, ρ, P, Z, s1.self, re.mono s1.gr, h1.2 rfl, pe.le s1.gr, px.le s1.gr⟩
variable {e : Expr} {es : List Expr} {we : WE} {w : WA}
def wNil : WA := fun _ cs P _ => P [] cs
def wCons (we : WE) (w : WA) : WA := fun ρ cs P Z => we ρ cs (fun x cs1 => w ρ cs1 (fun xs cs2 => P (x :: xs) cs2) Z) Z
theorem da_nil : DA X W [] wNil := PA.imp pa_nil fun σ H Q ⟨F, cs, ρ, P, Z, s, re, hw, pe, px⟩ => pe H cs [] [] s .nil rfl hw
theorem da_cons (ha : DE X W e we) (hr : DA X W es w) (hs : starEach (e :: es) X.env = (false, eval e X.env) :: starEach es X.env := by rfl) : DA X W (e :: es) (wCons we w) :=
  PA.imp (pa_cons ha hr hs) fun σ H Q h => by
    obtain ⟨F, cs, ρ, P, Z, s, re, hw, pe, px⟩ := h
    refine ⟨F, cs, ρ, _, Z, s, re, hw, fun H1 cs1 v d s1 r1 h1 => ?_, px⟩
    refine ⟨F, cs1, ρ, _, Z, s1.self, re.mono s1.gr, h1, fun H2 cs2 vs ds s2 r2 l2 h2 => ?_, px.le s1.gr⟩
    exact pe H2 cs2 _ _ (s2.from_ s1.gr) (.cons (r1.mono s2.gr) r2) (congrArg Nat.succ l2) h2
def wTup (w : WA) : WE := fun ρ cs P Z => w ρ cs (fun ds cs1 => P (.tup ds) cs1) Z
def wLst (w : WA) : WE := fun ρ cs P Z => w ρ cs (fun ds cs1 => P (.lst ds) cs1) Z
/-- a new list that will change -/
def wLstM (w : WA) : WE := fun ρ cs P Z => w ρ cs (fun ds cs1 => ∀ p, p ∉ adr cs1 → P (.opq (.ref p)) ((p, .lst ds) :: cs1)) Z
theorem small_es {n : Nat} (h : n ≤ 1000) : n ≤ sizeLine := Nat.le_trans h (by decide)
theorem d_tup {x1} (h : DA X W es w) (hn : es.length ≤ 1000 := by decide) : DE X W (.Tuple es x1 pos) (wTup w) :=
  PE.imp (pe_tup h) fun σ H Q h => by
    obtain ⟨F, cs, ρ, P, Z, s, re, hw, pe, px⟩ := h
    refine ⟨F, cs, ρ, _, Z, s, re, hw, fun H1 cs1 vs ds s1 r1 l1 h1 => ⟨by rw [r1.length, l1]; exact small_es hn, fun p hp => ?_⟩, px⟩
    obtain ⟨s2, e2⟩ := s1.new (o := .tup vs) hp
    exact pe _ cs1 _ _ (s2.from_ s1.gr) (.tup (SqT.of e2) (r1.mono s2.gr)) h1
theorem d_lst (h : DA X W es w) (hn : es.length ≤ 1000 := by decide) : DE X W (.List es pos) (wLst w) :=
  PE.imp (pe_lst h) fun σ H Q h => by
    obtain ⟨F, cs, ρ, P, Z, s, re, hw, pe, px⟩ := h
    refine ⟨F, cs, ρ, _, Z, s, re, hw, fun H1 cs1 vs ds s1 r1 l1 h1 => ⟨by rw [r1.length, l1]; exact small_es hn, fun p hp => ?_⟩, px⟩
    obtain ⟨s2, e2⟩ := s1.new (o := .lst vs) hp
    exact pe _ cs1 _ _ (s2.from_ s1.gr) (.lst (SqL.of e2) (r1.mono s2.gr)) h1
theorem d_lstM (h : DA X W es w) (hn : es.length ≤ 1000 := by decide) : DE X W (.List es pos) (wLstM w) :=
  PE.imp (pe_lst h) fun σ H Q h => by
    obtain ⟨F, cs, ρ, P, Z, s, re, hw, pe, px⟩ := h
    refine ⟨F, cs, ρ, _, Z, s, re, hw, fun H1 cs1 vs ds s1 r1 l1 h1 => ⟨by rw [r1.length, l1]; exact small_es hn, fun p hp => ?_⟩, px⟩
    have s2 := s1.newM (m := .lst ds) (o := .lst vs) hp r1
    exact pe _ _ _ _ (s2.from_ s1.gr) (.opq _) (h1 p (s1.notin hp).2)
abbrev DOn := List D → Cs → DP → Prop
def AdqN (K : PySem.W.Frag) (r : List V → Hp → VK → Prop) (o : DOn) : Prop := ∀ F cs H xs ds P Q, Sta K F (pur F cs H) cs H → RepL K (pur F cs H) xs ds → o ds cs P → PostE K F (pur F cs H) P Q → r xs H Q
def wCB (o : DOn) (w : WA) : WE := fun ρ cs P Z => w ρ cs (fun ds cs1 => o ds cs1 P) Z
theorem cb_ok {r : List V → Hp → VK → Prop} {o : DOn} {n : Nat} (adq : AdqN K r o) {Q : VK} : lE K W (wCB o w) σ H Q → tCB r (lA K W n w) σ H Q := by
  rintro ⟨F, cs, ρ, P, Z, s, re, hw, pe, px⟩
  exact ⟨F, cs, ρ, _, Z, s, re, hw, fun H1 cs1 vs ds s1 r1 l1 h1 => adq F cs1 H1 vs ds P Q s1.self r1 h1 (pe.le s1.gr), px⟩
variable {x : Str} {p : Pos} {id T : String} {r : List V → Hp → VK → Prop} {o : DOn}
theorem d_callB (hc : CallR X (.builtin id) r) (adq : AdqN X.K r o) (hg : Gl X x) (hm : X.mg x = none) (hv : bootBuiltins x = some (.builtin id)) (ha : DA X W (e :: es) w) (hn : x ≠ "__name__" := by decide) (hdb : (x == ("__debug__" : Str)) = false := by decide)
    (he : starEach (e :: es) X.env = (false, eval e X.env) :: starEach es X.env := by rfl) (hpl : (backTo pos (starEach es X.env)).any (·.1) = false := by rfl) : DE X W (.Call (.Name x p) (e :: es) [] pos) (wCB o w) :=
  PE.imp (pe_callB hc hg hm hv ha hn hdb he hpl) fun _ _ _ h => cb_ok adq h
theorem d_callTy (hc : CallR X (.type T) r) (adq : AdqN X.K r o) (hg : Gl X x) (hm : X.mg x = none) (hv : bootBuiltins x = some (.type T)) (ha : DA X W (e :: es) w) (hn : x ≠ "__name__" := by decide) (hdb : (x == ("__debug__" : Str)) = false := by decide)
    (he : starEach (e :: es) X.env = (false, eval e X.env) :: starEach es X.env := by rfl) (hpl : (backTo pos (starEach es X.env)).any (·.1) = false := by rfl) : DE X W (.Call (.Name x p) (e :: es) [] pos) (wCB o w) :=
  PE.imp (pe_callTy hc hg hm hv ha hn hdb he hpl) fun _ _ _ h => cb_ok adq h
def oAbs : DOn := fun ds cs P => match ds with
  | [.int i] => P (.int (if i < 0 then -i else i)) cs
  | _ => False
def oLen : DOn := fun ds cs P => match ds with
  | [.lst xs] => P (.int xs.length) cs
  | [.tup xs] => P (.int xs.length) cs
  | _ => False
def oList : DOn := fun ds cs P => match ds with
  | [.lst xs] => P (.lst xs) cs
  | [.tup xs] => P (.lst xs) cs
  | _ => False
theorem adq_abs : AdqN K (fun xs H Q => ∃ i, xs = [.int i] ∧ Q (.int (if i < 0 then -i else i)) H) oAbs := fun F cs H xs ds P Q s r ho pe => by
  unfold oAbs at ho
  split at ho
  · cases r with
    | cons h t => cases h; cases t; exact ⟨_, rfl, pe H cs _ _ s (.int _) ho⟩
  · exact ho.elim
theorem adq_len : AdqN K (fun xs H Q => ∃ p ys, xs = [.ref p] ∧ (SqL K H p ys ∨ SqT K H p ys) ∧ Q (.int ys.length) H) oLen := fun F cs H xs ds P Q s r ho pe => by
  unfold oLen at ho
  split at ho
  · cases r with
    | cons h t =>
      cases t
      cases h with
      | lst h r => exact ⟨_, _, rfl, .inl (ex_l pur_le h), by rw [r.length]; exact pe H cs _ _ s (.int _) ho⟩
  · cases r with
    | cons h t =>
      cases t
      cases h with
      | tup h r => exact ⟨_, _, rfl, .inr (ex_t pur_le h), by rw [r.length]; exact pe H cs _ _ s (.int _) ho⟩
  · exact ho.elim
theorem adq_list : AdqN K (fun xs H Q => ∃ p ys, xs = [.ref p] ∧ (SqL K H p ys ∨ SqT K H p ys) ∧ ∀ l, H l = none → Q (.ref l) (upd H l (.lst ys))) oList := fun F cs H xs ds P Q s r ho pe => by
  have fin : ∀ {ys : List V} {es : List D} {l : Addr}, RepL K (pur F cs H) ys es → H l = none → P (.lst es) cs → Q (.ref l) (upd H l (.lst ys)) := fun {ys es l} hr hl hp => by
    obtain ⟨s2, e2⟩ := s.new (o := .lst ys) hl
    exact pe _ cs _ _ s2 (.lst (SqL.of e2) (hr.mono s2.gr)) hp
  unfold oList at ho
  split at ho
  · cases r with
    | cons h t =>
      cases t
      cases h with
      | lst h r => exact ⟨_, _, rfl, .inl (ex_l pur_le h), fun l hl => fin r hl ho⟩
  · cases r with
    | cons h t =>
      cases t
      cases h with
      | tup h r => exact ⟨_, _, rfl, .inr (ex_t pur_le h), fun l hl => fin r hl ho⟩
  · exact ho.elim
abbrev WO := Env → Cs → (Option Int → Cs → Prop) → XZ → Prop
def lO (K : PySem.W.Frag) (W : WX) (w : WO) : TO := fun σ H Q => ∃ F cs ρ P Z, Sta K F (pur F cs H) cs H ∧ RepE K (pur F cs H) σ ρ ∧ w ρ cs P Z ∧ (∀ H' cs' b, Sta K F (pur F cs H) cs' H' → P b cs' → Q b H') ∧ PostX K F (pur F cs H) Z fun c d H' => W c d σ H'
abbrev DOp (X : Cx) (W : WX) (e : Option Expr) (w : WO) : Prop := PO X e (lO X.K W w)
theorem PO.imp {X : Cx} {e : Option Expr} {t t' : TO} (h : PO X e t) (i : ∀ σ H Q, t' σ H Q → t σ H Q) : PO X e t' := ⟨fun pins s σ H Q I q => h.run pins s σ H Q I (i σ H Q q)⟩
def wNoPart : WO := fun _ cs P _ => P none cs
def wPart (we : WE) : WO := fun ρ cs P Z => we ρ cs (fun x cs1 => match x with
  | .int i => P (some i) cs1
  | _ => False) Z
theorem do_none : DOp X W none wNoPart := PO.imp po_none fun σ H Q ⟨F, cs, ρ, P, Z, s, re, hw, pe, px⟩ => pe H cs none s hw
theorem do_some (h : DE X W e we) : DOp X W (some e) (wPart we) := PO.imp (po_some h) fun σ H Q h => by
  obtain ⟨F, cs, ρ, P, Z, s, re, hw, pe, px⟩ := h
  refine ⟨F, cs, ρ, _, Z, s, re, hw, fun H1 cs1 v d s1 r1 h1 => ?_, px⟩
  cases d <;> try exact h1.elim
  cases r1
  exact ⟨_, rfl, pe H1 cs1 _ s1 h1⟩
def cutD (xs : List D) (lo hi : Option Int) : List D := (xs.drop (HT.sIx xs.length 0 lo)).take (HT.sIx xs.length xs.length hi - HT.sIx xs.length 0 lo)
theorem RepL.cut {G : Hp} {vs : List V} {ds : List D} (r : RepL K G vs ds) (lo hi : Option Int) : RepL K G (cutV vs lo hi) (cutD ds lo hi) := by
  unfold cutV cutD
  rw [r.length]
  exact (r.drop _).take _
def oSlL : D → Option Int → Option Int → Cs → DP → Prop := fun x lo hi cs P => match x with
  | .lst xs => P (.lst (cutD xs lo hi)) cs
  | _ => False
def wSl (o : D → Option Int → Option Int → Cs → DP → Prop) (we : WE) (wl wh : WO) : WE := fun ρ cs P Z => we ρ cs (fun x cs1 => wl ρ cs1 (fun l cs2 => wh ρ cs2 (fun u cs3 => o x l u cs3 P) Z) Z) Z
def AdqS (K : PySem.W.Frag) (r : V → Option Int → Option Int → Hp → VK → Prop) (o : D → Option Int → Option Int → Cs → DP → Prop) : Prop := ∀ F cs H x dx lo hi P Q, Sta K F (pur F cs H) cs H → Rep K (pur F cs H) x dx → o dx lo hi cs P → PostE K F (pur F cs H) P Q → r x lo hi H Q
theorem d_slice {r : V → Option Int → Option Int → Hp → VK → Prop} {o : D → Option Int → Option Int → Cs → DP → Prop} {lo hi : Option Expr} {wl wh : WO} {p2 : Pos} (hr : SlR X r) (adq : AdqS X.K r o) (he : DE X W e we) (hl : DOp X W lo wl) (hu : DOp X W hi wh) :
    DE X W (.Subscript e (.Slice lo hi none p2) pos) (wSl o we wl wh) :=
  PE.imp (pe_slice hr he hl hu) fun σ H Q h => by
    obtain ⟨F, cs, ρ, P, Z, s, re, hw, pe, px⟩ := h
    refine ⟨F, cs, ρ, _, Z, s, re, hw, fun H1 cs1 v d s1 r1 h1 => ?_, px⟩
    refine ⟨F, cs1, ρ, _, Z, s1.self, re.mono s1.gr, h1, fun H2 cs2 l s2 h2 => ?_, px.le s1.gr⟩
    refine ⟨F, cs2, ρ, _, Z, s2.self, re.mono (s1.gr.trans s2.gr), h2, fun H3 cs3 u s3 h3 => ?_, px.le (s1.gr.trans s2.gr)⟩
    exact adq F cs3 H3 v d l u P Q s3.self (r1.mono (s2.gr.trans s3.gr)) h3 (pe.le ((s1.gr.trans s2.gr).trans s3.gr))
theorem adq_slL : AdqS K (rSlL K) oSlL := fun F cs H x dx lo hi P Q s rx ho pe => by
  unfold oSlL at ho
  split at ho
  · cases rx with
    | lst h r =>
      refine ⟨_, _, rfl, ex_l pur_le h, fun p hp => ?_⟩
      obtain ⟨s2, e2⟩ := s.new (o := .lst (cutV _ lo hi)) hp
      exact pe _ cs _ _ s2 (.lst (SqL.of e2) ((r.cut lo hi).mono s2.gr)) ho
  · exact ho.elim
end
end DL
namespace DL
open PySem L2
section
variable {X : Cx} {W : WX} {K : PySem.W.Frag} {σ : St} {H : Hp} {e c : Expr} {we : WE} {wt : WT} {pos : Pos} {st : Stmt} {rest A B : List Stmt} {u v : WS}
def sNext : WS := fun f ρ cs => f.nx ρ cs
def sSeq (u v : WS) : WS := fun f ρ cs => u { f with nx := fun ρ' cs' => v f ρ' cs' } ρ cs
theorem dss_nil : DSs X W [] sNext := PSs.imp pss_nil fun E σ H ⟨F, cs, ρ, f, s, re, hw, pe⟩ => pe.nx H cs σ ρ s re hw
theorem dss_cons (h1 : DS X W st u) (h2 : DSs X W rest v) : DSs X W (st :: rest) (sSeq u v) := PSs.imp (pss_cons h1 h2) fun E σ H h => by
  obtain ⟨F, cs, ρ, f, s, re, hw, pe⟩ := h
  exact ⟨F, cs, ρ, _, s, re, hw, ⟨fun H1 cs1 σ1 ρ1 s1 re1 h1 => ⟨F, cs1, ρ1, f, s1.self, re1, h1, pe.le s1.gr⟩, pe.bk, pe.ct, pe.rt, pe.ex⟩⟩
theorem dss_one (h1 : DS X W st u) : DSs X W [st] u := PSs.imp (pss_one h1) fun E σ H h => h
def sBreak : WS := fun f ρ cs => f.bk ρ cs
def sCont : WS := fun f ρ cs => f.ct ρ cs
theorem PostS.px {F G : Hp} {f : Fin} {E : Ends} {ρ : Env} (pe : PostS K F G W f E) (re : RepE K G σ ρ) : PostX K F G (fun x cs => f.ex x ρ cs) fun c d H' => W c d σ H' :=
  fun H' cs' x d s r h => pe.ex H' cs' σ ρ x d s (re.mono s.gr) r h
def sDrop (we : WE) : WS := fun f ρ cs => we ρ cs (fun _ cs1 => f.nx ρ cs1) (fun x cs1 => f.ex x ρ cs1)
theorem ds_expr (he : DE X W e we) (hs : swapsWith e none pos.line X.env = pure false := by rfl) : DS X W (.Expr e pos) (sDrop we) := PS.imp (ps_expr he hs) fun E σ H h => by
  obtain ⟨F, cs, ρ, f, s, re, hw, pe⟩ := h
  exact ⟨F, cs, ρ, _, _, s, re, hw, fun H1 cs1 v d s1 r1 h1 => pe.nx H1 cs1 σ ρ s1 (re.mono s1.gr) h1, pe.px re⟩
def sRet (we : WE) : WS := fun f ρ cs => we ρ cs f.rt (fun x cs1 => f.ex x ρ cs1)
theorem ds_ret (he : DE X W e we) : DS X W (.Return (some e) pos) (sRet we) := PS.imp (ps_ret he) fun E σ H h => by
  obtain ⟨F, cs, ρ, f, s, re, hw, pe⟩ := h
  exact ⟨F, cs, ρ, _, _, s, re, hw, fun H1 cs1 v d s1 r1 h1 => pe.rt H1 cs1 v d s1 r1 h1, pe.px re⟩
def sRetN : WS := fun f _ cs => f.rt .non cs
def sIf (wt : WT) (u v : WS) : WS := fun f ρ cs => wt ρ cs (fun k cs1 => (k = true → u f ρ cs1) ∧ (k = false → v f ρ cs1)) (fun x cs1 => f.ex x ρ cs1)
theorem ds_if (hc : DT X W c wt) (ha : DSs X W A u) (hb : DSs X W B v) : DS X W (.If c A B pos) (sIf wt u v) := PS.imp (ps_if hc ha hb) fun E σ H h => by
  obtain ⟨F, cs, ρ, f, s, re, hw, pe⟩ := h
  refine ⟨F, cs, ρ, _, _, s, re, hw, fun H1 cs1 k s1 h1 => ?_, pe.px re⟩
  cases k with
  | true => exact iteT ⟨F, cs1, ρ, f, s1.self, re.mono s1.gr, h1.1 rfl, pe.le s1.gr⟩
  | false => exact iteF ⟨F, cs1, ρ, f, s1.self, re.mono s1.gr, h1.2 rfl, pe.le s1.gr⟩
def sNever : WS := fun _ _ _ => False
theorem dss_never {sts : List Stmt} : DSs X W sts sNever := PSs.imp pss_never fun E σ H ⟨F, cs, ρ, f, s, re, hw, pe⟩ => hw
abbrev WG := D → Env → (Env → Prop) → Prop
abbrev WGs := List D → Env → (Env → Prop) → Prop
def lG (K : PySem.W.Frag) (g : WG) : TG := fun v σ H Q => ∃ F cs ρ d k, Sta K F (pur F cs H) cs H ∧ RepE K (pur F cs H) σ ρ ∧ Rep K (pur F cs H) v d ∧ g d ρ k ∧ ∀ σ' ρ' H', Sta K F (pur F cs H) cs H' → RepE K (pur F cs H') σ' ρ' → k ρ' → Q σ' H'
def lGs (K : PySem.W.Frag) (g : WGs) : TGs := fun v σ H Q => ∃ F cs ρ d k, Sta K F (pur F cs H) cs H ∧ RepE K (pur F cs H) σ ρ ∧ RepL K (pur F cs H) v d ∧ g d ρ k ∧ ∀ σ' ρ' H', Sta K F (pur F cs H) cs H' → RepE K (pur F cs H') σ' ρ' → k ρ' → Q σ' H'
abbrev DG (X : Cx) (tg : Expr) (g : WG) : Prop := PG X tg (lG X.K g)
abbrev DGs (X : Cx) (tg : List Expr) (g : WGs) : Prop := PGs X tg (lGs X.K g)
theorem PG.imp {X : Cx} {e : Expr} {t t' : TG} (h : PG X e t) (i : ∀ v σ H Q, t' v σ H Q → t v σ H Q) : PG X e t' := ⟨fun pins s σ H v u Q I r q => h.run pins s σ H v u Q I r (i v σ H Q q)⟩
theorem PGs.imp {X : Cx} {e : List Expr} {t t' : TGs} (h : PGs X e t) (i : ∀ v σ H Q, t' v σ H Q → t v σ H Q) : PGs X e t' := ⟨fun pins s σ H v u Q I r q => h.run pins s σ H v u Q I r (i v σ H Q q)⟩
def gN (i : Nat) : WG := fun d ρ k => k (ρ.set i (some d))
theorem dg_name {i : Nat} {x : Str} (hN : X.N.Nodup) (hi : X.N[i]? = some x) (hx : Loc X.env.scope x) (hf : X.fn x = true ∨ X.env.scope.names.lookup x = some .local := by first | exact .inl rfl | exact .inr rfl | assumption) : DG X (.Name x pos) (gN i) :=
  PG.imp (pg_name hN hi hx hf) fun v σ H Q ⟨F, cs, ρ, d, k, s, re, r, hw, q⟩ => q _ _ H s (re.set r i) hw
def gNl : WGs := fun ds ρ k => match ds with
  | [] => k ρ
  | _ => False
def gCn (g : WG) (gs : WGs) : WGs := fun ds ρ k => match ds with
  | d :: r => g d ρ fun ρ' => gs r ρ' k
  | [] => False
theorem dgs_nil : DGs X [] gNl := PGs.imp pgs_nil fun v σ H Q h => by
  obtain ⟨F, cs, ρ, d, k, s, re, r, hw, q⟩ := h
  cases r with
  | nil => exact ⟨rfl, q σ ρ H s re hw⟩
  | cons _ _ => exact hw.elim
theorem dgs_cons {es : List Expr} {g : WG} {gs : WGs} (h1 : DG X e g) (h2 : DGs X es gs) (hs : (assignEach (e :: es) X.env).map (·.2) = assign e X.env :: (assignEach es X.env).map (·.2) := by rfl) : DGs X (e :: es) (gCn g gs) := PGs.imp (pgs_cons h1 h2 hs) fun v σ H Q h => by
  obtain ⟨F, cs, ρ, d, k, s, re, r, hw, q⟩ := h
  cases r with
  | nil => exact hw.elim
  | cons r1 r2 => exact ⟨_, _, rfl, F, cs, ρ, _, _, s, re, r1, hw, fun σ1 ρ1 H1 s1 re1 h1 => ⟨F, cs, ρ1, _, k, s1.self, re1, r2.mono s1.gr, h1, fun σ2 ρ2 H2 s2 re2 h2 => q σ2 ρ2 H2 (s2.from_ s1.gr) re2 h2⟩⟩
/-- (a, b, ..) = a tuple of that length -/
def gT (n : Nat) (gs : WGs) : WG := fun d ρ k => match d with
  | .tup ds => ds.length = n ∧ gs ds ρ k
  | _ => False
theorem dg_tup {es : List Expr} {kk : Nat} {gs : WGs} {n : Nat} (hc : X.calm = true) (h : DGs X es gs) (hn : (assignEach es X.env).length = n := by rfl) (hst : (assignEach es X.env).findIdx? (·.1) = none := by rfl) : DG X (.Tuple es kk pos) (gT n gs) :=
  PG.imp (pg_tup hc h hn hst) fun v σ H Q hq => by
    obtain ⟨F, cs, ρ, d, k, s, re, r, hw, q⟩ := hq
    cases d <;> try exact hw.elim
    cases r with
    | tup h r => exact ⟨_, _, rfl, ex_t pur_le h, by rw [r.length]; exact hw.1, F, cs, ρ, _, k, s, re, r, hw.2, q⟩
def sAsg (we : WE) (g : WG) : WS := fun f ρ cs => we ρ cs (fun d cs1 => g d ρ fun ρ' => f.nx ρ' cs1) (fun x cs1 => f.ex x ρ cs1)
theorem asg_ok {g : WG} {E : Ends} : lS K W (sAsg we g) E σ H → tAsg (lE K W we) (lG K g) E σ H := by
  rintro ⟨F, cs, ρ, f, s, re, hw, pe⟩
  exact ⟨F, cs, ρ, _, _, s, re, hw, fun H1 cs1 v d s1 r1 h1 => ⟨F, cs1, ρ, d, _, s1.self, re.mono s1.gr, r1, h1, fun σ2 ρ2 H2 s2 re2 h2 => pe.nx H2 cs1 σ2 ρ2 (s2.from_ s1.gr) re2 h2⟩, pe.px re⟩
theorem asgN_ok {i : Nat} {E : Ends} : lS K W (sAsg we (gN i)) E σ H → tAsg (lE K W we) (gName i) E σ H := by
  rintro ⟨F, cs, ρ, f, s, re, hw, pe⟩
  exact ⟨F, cs, ρ, _, _, s, re, hw, fun H1 cs1 v d s1 r1 h1 => pe.nx H1 cs1 _ _ s1 ((re.mono s1.gr).set r1 i) h1, pe.px re⟩
theorem ds_set {i : Nat} {x : Str} {pos' : Pos} (hN : X.N.Nodup) (hi : X.N[i]? = some x) (hx : Loc X.env.scope x) (he : DE X W e we) (hs : swapsWith e (some (.Name x pos')) pos.line X.env = pure false := by rfl)
    (hf : X.fn x = true ∨ X.env.scope.names.lookup x = some .local := by first | exact .inl rfl | exact .inr rfl | assumption) : DS X W (.Assign [.Name x pos'] e pos) (sAsg we (gN i)) :=
  PS.imp (ps_set (i := i) hN hi hx he hs hf) fun _ _ _ h => asgN_ok h
theorem ds_asg {tg : Expr} {g : WG} (he : DE X W e we) (hg : DG X tg g) (hs : swapsWithSole [tg] e pos.line X.env = pure false := by rfl) (hw : swappedStores [tg] e X.env = pure none := by rfl)
    (h1 : (assignEach [tg] X.env).map (·.2) = [assign tg X.env] := by rfl) : DS X W (.Assign [tg] e pos) (sAsg we g) := PS.imp (ps_asg he hg hs hw h1) fun _ _ _ h => asg_ok h
def sPar (i j : Nat) (w : WA) : WS := fun f ρ cs => w ρ cs (fun ds cs1 => match ds with
  | [x, y] => f.nx ((ρ.set i (some x)).set j (some y)) cs1
  | _ => False) (fun x cs1 => f.ex x ρ cs1)
theorem par_inv {ds : List D} {g : D → D → Prop} (h : (match ds with | [x, y] => g x y | _ => False)) : ∃ x y, ds = [x, y] ∧ g x y := by
  match ds, h with
  | [x, y], h => exact ⟨x, y, rfl, h⟩
theorem ds_par {i j : Nat} {x y : Str} {a b : Expr} {w : WA} {px py pt : Pos} {kt k2 pt2} (hc : X.calm = true) (hN : X.N.Nodup) (hi : X.N[i]? = some x) (hj : X.N[j]? = some y) (hij : i ≠ j)
    (hx : X.env.scope.names.lookup x = some .local) (hy : X.env.scope.names.lookup y = some .local) (ha : DA X W [a, b] w)
    (hw : swappedStores [.Tuple [.Name x px, .Name y py] kt pt] (.Tuple [a, b] k2 pt2) X.env = pure (some [x, y]) := by rfl)
    (hs : swapsWithSole [.Tuple [.Name x px, .Name y py] kt pt] (.Tuple [a, b] k2 pt2) pos.line X.env = pure false := by rfl) :
    DS X W (.Assign [.Tuple [.Name x px, .Name y py] kt pt] (.Tuple [a, b] k2 pt2) pos) (sPar i j w) := PS.imp (ps_par hc hN hi hj hij hx hy ha hw hs) fun E σ H h => by
  obtain ⟨F, cs, ρ, f, s, re, hw, pe⟩ := h
  refine ⟨F, cs, ρ, _, _, s, re, hw, fun H1 cs1 vs ds s1 r1 l1 h1 => ?_, pe.px re⟩
  obtain ⟨dx, dy, rfl, h⟩ := par_inv h1
  cases r1 with
  | cons r1 r2 =>
    cases r2 with
    | cons r2 r3 =>
      cases r3
      exact ⟨_, _, rfl, pe.nx H1 cs1 _ _ s1 (((re.mono s1.gr).set r1 i).set r2 j) h⟩
/-- name op= e of ints -/
def sAug (i : Nat) (o : DO2) (we : WE) : WS := fun f ρ cs => match ρ[i]? with
  | some (some x) => we ρ cs (fun y cs1 => o x y cs1 fun z cs2 => f.nx (ρ.set i (some z)) cs2) (fun x cs1 => f.ex x ρ cs1)
  | _ => False
/-- I: by a number that falls -/
def sWhile (wt : WT) (wb : WS) : WS := fun f ρ cs => ∃ I : Nat → Env → Cs → Prop, (∃ m, I m ρ cs) ∧ ∀ m ρ cs, I m ρ cs →
  wt ρ cs (fun k cs1 => (k = true → wb { f with nx := fun ρ' cs' => ∃ m', m' < m ∧ I m' ρ' cs', ct := fun ρ' cs' => ∃ m', m' < m ∧ I m' ρ' cs', bk := f.nx } ρ cs1) ∧ (k = false → f.nx ρ cs1)) (fun x cs1 => f.ex x ρ cs1)
theorem ds_while {body : List Stmt} {wb : WS} (hp : PassesOwn (model X.prog X.w) X.A X.env X.xe) (hc : DT X W c wt) (hb : DSs X W body wb) : DS X W (.While c body [] pos) (sWhile wt wb) := PS.imp (ps_while hp hc hb) fun E σ H h => by
  obtain ⟨F, cs, ρ, f, s, re, ⟨I, ⟨m0, i0⟩, turn⟩, pe⟩ := h
  refine ⟨fun m σ' H' => ∃ cs' ρ', Sta X.K F (pur F cs H) cs' H' ∧ RepE X.K (pur F cs' H') σ' ρ' ∧ I m ρ' cs', ⟨m0, cs, ρ, s, re, i0⟩, fun m σ1 H1 ⟨cs1, ρ1, s1, re1, i1⟩ => ?_⟩
  refine ⟨F, cs1, ρ1, _, _, s1.self, re1, turn m ρ1 cs1 i1, fun H2 cs2 k s2 h2 => ?_, (pe.le s1.gr).px re1⟩
  cases k with
  | true =>
    refine iteT ⟨fun σ' H' => ∃ m', m' < m ∧ ∃ cs' ρ', Sta X.K F (pur F cs H) cs' H' ∧ RepE X.K (pur F cs' H') σ' ρ' ∧ I m' ρ' cs', fun σ' H' ⟨m', hm, z⟩ => ⟨m', hm, z⟩, ?_⟩
    have pe2 := pe.le (s1.gr.trans s2.gr)
    exact ⟨F, cs2, ρ1, _, s2.self, re1.mono s2.gr, h2.1 rfl, ⟨fun H3 cs3 σ3 ρ3 s3 re3 ⟨m', hm, z⟩ => ⟨m', hm, cs3, ρ3, s3.from_ (s1.gr.trans s2.gr), re3, z⟩, fun H3 cs3 σ3 ρ3 s3 re3 z => pe2.nx H3 cs3 σ3 ρ3 s3 re3 z,
      fun H3 cs3 σ3 ρ3 s3 re3 ⟨m', hm, z⟩ => ⟨m', hm, cs3, ρ3, s3.from_ (s1.gr.trans s2.gr), re3, z⟩, pe2.rt, pe2.ex⟩⟩
  | false => exact iteF (pe.nx H2 cs2 σ1 ρ1 (s2.from_ s1.gr) (re1.mono s2.gr) (h2.2 rfl))
/-- J yields xs as long as the data stand -/
structure YI (K : PySem.W.Frag) (J : It) (G : Hp) (xs : List D) : Prop where
  go : ∀ i d, xs[i]? = some d → ∀ F cs H, Sta K F G cs H → J.go i H
  yld : ∀ i d, xs[i]? = some d → ∀ F cs H x H', Sta K F G cs H → J.yld i H x H' → Sta K F (pur F cs H) cs H' ∧ Rep K (pur F cs H') x d
  stop : ∀ F cs H, Sta K F G cs H → J.stop xs.length H
abbrev WI := Env → Cs → (List D → Cs → Prop) → XZ → Prop
def lI (K : PySem.W.Frag) (W : WX) (w : WI) : TI := fun σ H R => ∃ F cs ρ P Z, Sta K F (pur F cs H) cs H ∧ RepE K (pur F cs H) σ ρ ∧ w ρ cs P Z ∧ (∀ H' cs' J xs, Sta K F (pur F cs H) cs' H' → YI K J (pur F cs' H') xs → P xs cs' → R J H') ∧ PostX K F (pur F cs H) Z fun c d H' => W c d σ H'
abbrev DI (X : Cx) (W : WX) (tg it : Expr) (w : WI) : Prop := PI X tg it (lI X.K W w)
theorem PI.imp {X : Cx} {tg e : Expr} {t t' : TI} (h : PI X tg e t) (i : ∀ σ H Q, t' σ H Q → t σ H Q) : PI X tg e t' := ⟨fun pins s σ H Q I q => h.run pins s σ H Q I (i σ H Q q)⟩
def loopW (g : WG) (wb : WS) (f : Fin) : List D → Env → Cs → Prop
  | [], ρ, cs => f.nx ρ cs
  | d :: r, ρ, cs => g d ρ fun ρ1 => wb { f with nx := fun ρ' cs' => loopW g wb f r ρ' cs', ct := fun ρ' cs' => loopW g wb f r ρ' cs', bk := f.nx } ρ1 cs
def sFor (wi : WI) (g : WG) (wb : WS) : WS := fun f ρ cs => wi ρ cs (fun xs cs1 => loopW g wb f xs ρ cs1) (fun x cs1 => f.ex x ρ cs1)
theorem drop_cons {α : Type} {xs : List α} {i : Nat} {d : α} {r : List α} (h : xs.drop i = d :: r) : xs[i]? = some d ∧ xs.drop (i + 1) = r := by
  refine ⟨?_, ?_⟩
  · have e : (xs.drop i)[0]? = some d := by rw [h] <;> rfl
    rw [List.getElem?_drop] at e
    simpa using e
  · have e : (xs.drop i).drop 1 = r := by rw [h] <;> rfl
    rw [List.drop_drop] at e
    exact e
theorem ds_for {tg iter : Expr} {body : List Stmt} {wi : WI} {g : WG} {wb : WS} (hp : PassesOwn (model X.prog X.w) X.A X.env X.xe) (hc : X.calm = true) (hi : DI X W tg iter wi) (hg : DG X tg g) (hb : DSs X W body wb)
    (hs : ∀ x, foldedSetIterable iter X.env x = pure x := by intro _; rfl) : DS X W (.For tg iter body [] pos) (sFor wi g wb) := PS.imp (ps_for hp hc hi hg hb hs) fun E σ H h => by
  obtain ⟨F, cs, ρ, f, s, re, hw, pe⟩ := h
  refine ⟨F, cs, ρ, _, _, s, re, hw, fun H1 cs1 J xs s1 yi h1 => ?_, pe.px re⟩
  refine ⟨fun i m σ' H' => i ≤ xs.length ∧ m = xs.length - i ∧ ∃ cs' ρ', Sta X.K F (pur F cs1 H1) cs' H' ∧ RepE X.K (pur F cs' H') σ' ρ' ∧ loopW g wb f (xs.drop i) ρ' cs', ⟨xs.length, Nat.zero_le _, rfl, cs1, ρ, s1.self, re.mono s1.gr, h1⟩, ?_⟩
  rintro i m σ2 H2 ⟨hi, rfl, cs2, ρ2, s2, re2, h2⟩
  cases e : xs.drop i with
  | nil =>
    have hl : xs.length ≤ i := by
      have z := congrArg List.length e
      rw [List.length_drop] at z
      have z' : xs.length - i = 0 := z
      omega
    have hie : i = xs.length := by omega
    rw [e] at h2
    refine .inl ⟨?_, pe.nx H2 cs2 σ2 ρ2 (s2.from_ s1.gr) re2 h2⟩
    rw [hie]
    exact yi.stop F cs2 H2 s2
  | cons d r =>
    obtain ⟨e1, e2⟩ := drop_cons e
    have hlt : i < xs.length := (List.getElem?_eq_some_iff.mp e1).1
    rw [e] at h2
    refine .inr ⟨yi.go i d e1 F cs2 H2 s2, fun σ' H' => ∃ cs' ρ', Sta X.K F (pur F cs1 H1) cs' H' ∧ RepE X.K (pur F cs' H') σ' ρ' ∧ loopW g wb f r ρ' cs', ?_, ?_⟩
    · rintro σ' H' ⟨cs', ρ', s', re', h'⟩
      exact ⟨xs.length - (i + 1), by omega, by omega, rfl, cs', ρ', s', re', by rw [e2]; exact h'⟩
    · intro x H3 hy
      obtain ⟨s3, r3⟩ := yi.yld i d e1 F cs2 H2 x H3 s2 hy
      have g3 := s2.gr.trans s3.gr
      have pe3 := pe.le (s1.gr.trans g3)
      refine ⟨F, cs2, ρ2, d, _, s3.self, re2.mono s3.gr, r3, h2, fun σ4 ρ4 H4 s4 re4 h4 => ?_⟩
      have g4 := g3.trans s4.gr
      have pe4 := pe.le (s1.gr.trans g4)
      exact ⟨F, cs2, ρ4, _, s4.self, re4, h4, ⟨fun H5 cs5 σ5 ρ5 s5 re5 h5 => ⟨cs5, ρ5, s5.from_ g4, re5, h5⟩, fun H5 cs5 σ5 ρ5 s5 re5 h5 => pe4.nx H5 cs5 σ5 ρ5 s5 re5 h5,
        fun H5 cs5 σ5 ρ5 s5 re5 h5 => ⟨cs5, ρ5, s5.from_ g4, re5, h5⟩, pe4.rt, pe4.ex⟩⟩
def iSeq (we : WE) : WI := fun ρ cs P Z => we ρ cs (fun d cs1 => match d with
  | .lst xs => P xs cs1
  | _ => False) Z
def iTupD (we : WE) : WI := fun ρ cs P Z => we ρ cs (fun d cs1 => match d with
  | .tup xs => P xs cs1
  | _ => False) Z
theorem yi_list {G : Hp} {a : Addr} {xs : List V} {ds : List D} (h : SqL K G a xs) (r : RepL K G xs ds) : YI K (Itl K a) G ds where
  go := fun i d e F cs H s => by
    obtain ⟨v, e1, _⟩ := r.get e
    exact ⟨xs, v, ex_l (s.gr.trans pur_le) h, e1⟩
  yld := fun i d e F cs H x H' s hy => by
    obtain ⟨e1, e2⟩ := hy
    obtain ⟨v, e3, rv⟩ := r.get e
    have e4 := e2 xs (ex_l (s.gr.trans pur_le) h)
    rw [e3] at e4
    cases e4
    subst e1
    exact ⟨s.self, rv.mono s.gr⟩
  stop := fun F cs H s => ⟨xs, ex_l (s.gr.trans pur_le) h, by rw [r.length]; exact Nat.le_refl _⟩
theorem yi_tup {G : Hp} {a : Addr} {xs : List V} {ds : List D} (h : SqT K G a xs) (r : RepL K G xs ds) : YI K (Itt K a) G ds where
  go := fun i d e F cs H s => by
    obtain ⟨v, e1, _⟩ := r.get e
    exact ⟨xs, v, ex_t (s.gr.trans pur_le) h, e1⟩
  yld := fun i d e F cs H x H' s hy => by
    obtain ⟨e1, e2⟩ := hy
    obtain ⟨v, e3, rv⟩ := r.get e
    have e4 := e2 xs (ex_t (s.gr.trans pur_le) h)
    rw [e3] at e4
    cases e4
    subst e1
    exact ⟨s.self, rv.mono s.gr⟩
  stop := fun F cs H s => ⟨xs, ex_t (s.gr.trans pur_le) h, by rw [r.length]; exact Nat.le_refl _⟩
theorem di_list {tg : Expr} (h : DE X W e we) : DI X W tg e (iSeq we) := PI.imp (pi_list h) fun σ H R hq => by
  obtain ⟨F, cs, ρ, P, Z, s, re, hw, pe, px⟩ := hq
  refine ⟨F, cs, ρ, _, Z, s, re, hw, fun H1 cs1 v d s1 r1 h1 => ?_, px⟩
  cases d <;> try exact h1.elim
  cases r1 with
  | lst h r => exact ⟨_, rfl, ⟨_, ex_l pur_le h⟩, pe H1 cs1 _ _ s1 (yi_list h r) h1⟩
def rngD (lo : Int) (n : Nat) : List D := (List.range n).map fun (i : Nat) => D.int (lo + (i : Int))
theorem yi_range (G : Hp) (lo : Int) (n : Nat) : YI K (Itr lo n) G (rngD lo n) where
  go := fun i d e F cs H s => by
    have z := (List.getElem?_eq_some_iff.mp e).1
    have z2 : i < n := by simpa [rngD] using z
    exact z2
  yld := fun i d e F cs H x H' s hy => by
    obtain ⟨e1, e2⟩ := hy
    subst e1 e2
    obtain ⟨hi, e3⟩ := List.getElem?_eq_some_iff.mp e
    simp [rngD] at e3
    rw [← e3]
    exact ⟨s.self, .int _⟩
  stop := fun F cs H s => by
    have z : n ≤ (rngD lo n).length := by simp [rngD]
    exact z
def iRg1 (w : WA) : WI := fun ρ cs P Z => w ρ cs (fun ds cs1 => match ds with
  | [.int j] => (-(2 ^ 62) ≤ j ∧ j < 2 ^ 62) ∧ P (rngD 0 j.toNat) cs1
  | _ => False) Z
def iRg2 (w : WA) : WI := fun ρ cs P Z => w ρ cs (fun ds cs1 => match ds with
  | [.int i, .int j] => (-(2 ^ 62) ≤ i ∧ i < 2 ^ 62 ∧ -(2 ^ 62) ≤ j ∧ j < 2 ^ 62) ∧ P (rngD i (j - i).toNat) cs1
  | _ => False) Z
theorem int1_inv {ds : List D} {g : Int → Prop} (h : (match ds with | [D.int j] => g j | _ => False)) : ∃ j, ds = [.int j] ∧ g j := by
  match ds, h with
  | [D.int j], h => exact ⟨j, rfl, h⟩
theorem int2_inv {ds : List D} {g : Int → Int → Prop} (h : (match ds with | [D.int i, D.int j] => g i j | _ => False)) : ∃ i j, ds = [.int i, .int j] ∧ g i j := by
  match ds, h with
  | [D.int i, D.int j], h => exact ⟨i, j, rfl, h⟩
theorem di_range1 {tg a : Expr} {w : WA} {p : Pos} (hg : Gl X "range") (hm : X.mg "range" = none) (ha : DA X W [a] w) (hs : starEach [a] X.env = [(false, eval a X.env)] := by rfl) : DI X W tg (.Call (.Name "range" p) [a] [] pos) (iRg1 w) :=
  PI.imp (pi_range1 hg hm ha hs) fun σ H R hq => by
    obtain ⟨F, cs, ρ, P, Z, s, re, hw, pe, px⟩ := hq
    refine ⟨F, cs, ρ, _, Z, s, re, hw, fun H1 cs1 vs ds s1 r1 l1 h1 => ?_, px⟩
    obtain ⟨j, rfl, ⟨h2, h3⟩, h⟩ := int1_inv h1
    cases r1 with
    | cons r1 r2 => cases r1; cases r2; exact ⟨j, rfl, h2, h3, pe H1 cs1 _ _ s1 (yi_range _ 0 _) h⟩
theorem di_range2 {tg a b : Expr} {w : WA} {p : Pos} (hg : Gl X "range") (hm : X.mg "range" = none) (ha : DA X W [a, b] w) (hs : starEach [a, b] X.env = [(false, eval a X.env), (false, eval b X.env)] := by rfl) (hs2 : starEach [b] X.env = [(false, eval b X.env)] := by rfl) :
    DI X W tg (.Call (.Name "range" p) [a, b] [] pos) (iRg2 w) := PI.imp (pi_range2 hg hm ha hs hs2) fun σ H R hq => by
    obtain ⟨F, cs, ρ, P, Z, s, re, hw, pe, px⟩ := hq
    refine ⟨F, cs, ρ, _, Z, s, re, hw, fun H1 cs1 vs ds s1 r1 l1 h1 => ?_, px⟩
    obtain ⟨i, j, rfl, h2, h⟩ := int2_inv h1
    cases r1 with
    | cons r1 r2 =>
      cases r2 with
      | cons r2 r3 => cases r1; cases r2; cases r3; exact ⟨i, j, rfl, h2, pe H1 cs1 _ _ s1 (yi_range _ i _) h⟩
end
end DL
namespace DL
open PySem PySem.Spec PyProof.Rows L2
abbrev DSp := List D → Cs → DP → XZ → Prop
def spL (K : PySem.W.Frag) (n : Nat) (sp : DSp) : Sp := fun vs H Q E => ∃ F cs ds P Z, Sta K F (pur F cs H) cs H ∧ RepL K (pur F cs H) vs ds ∧ ds.length = n ∧ sp ds cs P Z ∧ PostE K F (pur F cs H) P Q ∧ PostX K F (pur F cs H) Z E
theorem spL_len {K : PySem.W.Frag} {n : Nat} {sp : DSp} : ∀ vs H Q E, spL K n sp vs H Q E → vs.length = n := fun vs H Q E ⟨F, cs, ds, P, Z, s, r, l, _⟩ => r.length.trans l
section
variable {X : Cx} {W : WX} {K : PySem.W.Frag} {σ : L2.St} {H : Hp} {CX : CXT} {k n : Nat} {f : Addr} {fd : FuncData} {ps : List Str} {sp : DSp} {x : Str} {p pos : Pos} {e : Expr} {es : List Expr} {w : WA} {dvs : List V} {dds : List D} {ds : List Value}
def wCall (sp : DSp) (dds : List D) (w : WA) : WE := fun ρ cs P Z => w ρ cs (fun ds cs1 => sp (ds ++ dds) cs1 P Z) Z
theorem RepL.const {dvs : List V} {dds : List D} (h : ∀ G, RepL K G dvs dds) {G : Hp} {vs : List V} {ds : List D} (r : RepL K G vs ds) : RepL K G (vs ++ dvs) (ds ++ dds) := r.append (h G)
theorem call_ok {m : Nat} (hd : ∀ G, RepL K G dvs dds) (hn : m + dds.length = n) {Q : VK} : lE K W (wCall sp dds w) σ H Q → tCallSD (spL K n sp) dvs (L2.WE W) (lA K W m w) σ H Q := by
  rintro ⟨F, cs, ρ, P, Z, s, re, hw, pe, px⟩
  refine ⟨F, cs, ρ, _, Z, s, re, hw, fun H1 cs1 vs ds s1 r1 l1 h1 => ?_, px⟩
  exact ⟨F, cs1, _, P, Z, s1.self, RepL.const hd r1, by rw [List.length_append, l1]; exact hn, h1, pe.le s1.gr, px.le s1.gr⟩
/-- f(e, ..), the defaults dds behind -/
theorem d_call (F : FnOk X.prog X.w X.K X.mg X.base (L2.CX X.prog X.w) k f fd ps (spL X.K n sp)) (hr : Room k X.A) (hg : Gl X x) (hm : X.mg x = some (.ref f)) (hk : PySem.W.keepIn X.K (.ref f) = true) (hb : Binds X.K fd ps ds) (hd : Vals dvs ds) (hdd : ∀ G, RepL X.K G dvs dds) (tk : Takes X W)
    (ha : DA X W (e :: es) w) (hn : (e :: es).length + dds.length = n := by rfl) (hdb : (x == ("__debug__" : Str)) = false := by decide) (he : starEach (e :: es) X.env = (false, eval e X.env) :: starEach es X.env := by rfl) (hpl : (backTo pos (starEach es X.env)).any (·.1) = false := by rfl) :
    DE X W (.Call (.Name x p) (e :: es) [] pos) (wCall sp dds w) :=
  PE.imp (pe_callSD (E := L2.WE W) F hr hg hm hk hb hd (fun σ => passAt tk σ) ha hdb he hpl) fun _ _ _ h => call_ok hdd hn h
theorem d_callN (F : FnOk X.prog X.w X.K X.mg X.base (L2.CX X.prog X.w) k f fd ps (spL X.K n sp)) (hr : Room k X.A) (hg : Gl X x) (hm : X.mg x = some (.ref f)) (hk : PySem.W.keepIn X.K (.ref f) = true) (hb : Binds X.K fd ps []) (tk : Takes X W)
    (ha : DA X W (e :: es) w) (hn : (e :: es).length = n := by rfl) (hdb : (x == ("__debug__" : Str)) = false := by decide) (he : starEach (e :: es) X.env = (false, eval e X.env) :: starEach es X.env := by rfl) (hpl : (backTo pos (starEach es X.env)).any (·.1) = false := by rfl) :
    DE X W (.Call (.Name x p) (e :: es) [] pos) (wCall sp [] w) := d_call (dds := []) F hr hg hm hk hb .nil (fun _ => .nil) tk ha hn hdb he hpl
end
section
variable {P : Program} {w : World} {K : PySem.W.Frag} {mg : Str → Option Value} {base : Heap} {x qual : Str} {params : Arguments} {body : List Stmt} {scope : Scope} {dvs : List V} {kws : List (Str × V)} {f : Addr} {fd : FuncData}
def startD (N : List Str) (ds : List D) : Env := ds.map some ++ List.replicate (N.length - ds.length) none
/-- the end of a body -/
abbrev finD (P : DP) (Z : XZ) : Fin := { nx := fun _ cs => P .non cs, rt := P, ex := fun x _ cs => Z x cs }
abbrev cxD (P : Program) (w : World) (K : PySem.W.Frag) (mg : Str → Option Value) (base : Heap) (N : List Str) (qual : Str) (scope : Scope) (f : Addr) (cdv : Value) (A : Around) (outer : List PySem.Env) (s : Shared) (H : Hp) (E : XK) : Cx :=
  cxOf (L2.CX P w) P w K mg base N qual scope f cdv A outer s H E
theorem ok_def {N ps : List Str} {k : Nat} {sp : DSp} (F : FunD K x qual params body scope dvs kws f fd) (S : FnScope N ps scope) {u : WS}
    (hb : ∀ (cdv : Value) (A : Around) (outer : List PySem.Env) (s : Shared) (H : Hp) (E : XK), Room k (A.deeper (envOfC qual scope s.heap.objs.size f cdv)) → DSs (cxD P w K mg base N qual scope f cdv A outer s H E) (fun cls d _ H => E cls d H) body u)
    (hsp : ∀ ds cs Q Z, sp ds cs Q Z → ds.length = ps.length → u (finD Q Z) (startD N ds) cs) : FnOk P w K mg base (L2.CX P w) (k + 1) f fd ps (spL K ps.length sp) := by
  refine F.ok S spL_len fun cdv A outer s H vs Q E hr h => ?_
  obtain ⟨F, cs, ds, Pd, Z, st, r, l, hs, pe, px⟩ := h
  refine ⟨_, hb cdv A outer s H E hr, F, cs, startD N ds, finD Pd Z, st, ?_, hsp ds cs Pd Z hs l, ⟨fun H' cs' σ' ρ' s' _ h' => pe H' cs' .non .non s' .non h', fun _ _ _ _ _ _ h => h.elim, fun _ _ _ _ _ _ h => h.elim, pe, fun H' cs' σ' ρ' x d s' _ r' h' => px H' cs' x d s' r' h'⟩⟩
  unfold startD L2.start
  rw [r.length]
  exact RepE.start _ r
end
theorem takesD {P : Program} {w : World} {K : PySem.W.Frag} {mg : Str → Option Value} {base : Heap} {N : List Str} {qual : Str} {scope : Scope} {f : Addr} {cdv : Value} {A : Around} {outer : List PySem.Env} {s : Shared} {H : Hp} {E : XK} :
    Takes (cxD P w K mg base N qual scope f cdv A outer s H E) (fun cls d _ H => E cls d H) := takes_of rfl rfl rfl rfl
theorem passD {P : Program} {w : World} {K : PySem.W.Frag} {mg : Str → Option Value} {base : Heap} {N : List Str} {qual : Str} {scope : Scope} {f : Addr} {cdv : Value} {A : Around} {outer : List PySem.Env} {s : Shared} {H : Hp} {E : XK} :
    PassesOwn (model P w) (cxD P w K mg base N qual scope f cdv A outer s H E).A (cxD P w K mg base N qual scope f cdv A outer s H E).env (cxD P w K mg base N qual scope f cdv A outer s H E).xe :=
  passes_of (X := cxD P w K mg base N qual scope f cdv A outer s H E) rfl
section
variable {X : Cx} {W : WX} {K : PySem.W.Frag} {σ : L2.St} {H : Hp} {pos : Pos} {a b e : Expr} {wa wb : WE}
abbrev DSet := D → D → D → Cs → (Cs → Prop) → Prop
def oSetL : DSet := fun o i v cs Q => match o, i with
  | .opq (.ref p), .int k => (match look p cs with
    | some (.lst ds) => (match ixN ds.length k with
      | some j => Q (put p (.lst (ds.set j v)) cs)
      | none => False)
    | _ => False)
  | _, _ => False
/-- o[i] = v -/
def sSetIx (wv wo wi : WE) (o : DSet) : WS := fun f ρ cs => wv ρ cs (fun v cs1 => wo ρ cs1 (fun x cs2 => wi ρ cs2 (fun i cs3 => o x i v cs3 fun cs4 => f.nx ρ cs4) (fun x cs1 => f.ex x ρ cs1)) (fun x cs1 => f.ex x ρ cs1)) (fun x cs1 => f.ex x ρ cs1)
theorem setL_inv {o i v : D} {cs : Cs} {Q : Cs → Prop} (h : oSetL o i v cs Q) : ∃ p k ds j, o = .opq (.ref p) ∧ i = .int k ∧ look p cs = some (.lst ds) ∧ ixN ds.length k = some j ∧ Q (put p (.lst (ds.set j v)) cs) := by
  unfold oSetL at h
  split at h
  · split at h
    · rename_i e
      split at h
      · rename_i e2
        exact ⟨_, _, _, _, rfl, rfl, e, e2, h⟩
      · exact h.elim
    · exact h.elim
  · exact h.elim
theorem lst_at {K : PySem.W.Frag} {F G0 H : Hp} {cs : Cs} {p : Addr} {ds : List D} (s : Sta K F G0 cs H) (h : look p cs = some (.lst ds)) : ∃ vs, H p = some (.lst vs) ∧ RepL K (pur F cs H) vs ds := by
  obtain ⟨o, e, q⟩ := s.look h
  cases o <;> first | exact ⟨_, e, q⟩ | exact q.elim
theorem ds_setix {o i v : Expr} {wo wi wv : WE} {p1 : Pos} (hv : DE X W v wv) (ho : DE X W o wo) (hi : DE X W i wi)
    (ha : ∀ u, assign (.Subscript o i p1) X.env u = (do
      let ov ← holding [u] (eval o X.env)
      let iv ← holding [u, ov] (eval i X.env)
      standAt p1
      holding [u, ov, iv] (setItem ov iv u)
      release [u, ov, iv] []) := by intro _; rfl)
    (hs : swapsWithSole [.Subscript o i p1] v pos.line X.env = pure false := by rfl) (hw : swappedStores [.Subscript o i p1] v X.env = pure none := by rfl) (h1 : (assignEach [.Subscript o i p1] X.env).map (·.2) = [assign (.Subscript o i p1) X.env] := by rfl) :
    DS X W (.Assign [.Subscript o i p1] v pos) (sSetIx wv wo wi oSetL) := PS.imp (ps_asg hv (pg_sub ho hi set_list ha) hs hw h1) fun E σ H h => by
  obtain ⟨F, cs, ρ, f, s, re, hw, pe⟩ := h
  refine ⟨F, cs, ρ, _, _, s, re, hw, fun H1 cs1 y dy s1 r1 h1 => ?_, pe.px re⟩
  refine ⟨F, cs1, ρ, _, _, s1.self, re.mono s1.gr, h1, fun H2 cs2 x dx s2 r2 h2 => ?_, (pe.le s1.gr).px (re.mono s1.gr)⟩
  refine ⟨F, cs2, ρ, _, _, s2.self, re.mono (s1.gr.trans s2.gr), h2, fun H3 cs3 z dz s3 r3 h3 => ?_, (pe.le (s1.gr.trans s2.gr)).px (re.mono (s1.gr.trans s2.gr))⟩
  obtain ⟨p, k, ds, j, rfl, rfl, hl, hj, h⟩ := setL_inv h3
  obtain ⟨vs, e, rl⟩ := lst_at s3 hl
  cases r2
  cases r3
  have s4 := s3.put hl (m' := .lst (ds.set j dy)) (o' := .lst (vs.set j y)) (rl.set (r1.mono (s2.gr.trans s3.gr)) j)
  refine ⟨p, vs, k, j, rfl, rfl, e, by rw [rl.length]; exact hj, ?_⟩
  have g := (s1.gr.trans s2.gr).trans s3.gr
  exact pe.nx _ _ σ ρ (s4.from_ g) (re.mono (g.trans s4.gr)) h
/-- the i-th item of the changing list at p; len of it -/
def oIxM : DO2 := fun x y cs P => match x, y with
  | .opq (.ref p), .int i => (match look p cs with
    | some (.lst ds) => (match atD ds i with
      | some d => P d cs
      | none => False)
    | _ => False)
  | _, _ => False
theorem adq_ixM : Adq K (rIx K) oIxM := fun F cs H x y dx dy P Q s rx ry ho pe => by
  unfold oIxM at ho
  split at ho
  · split at ho
    · rename_i e
      split at ho
      · rename_i d e2
        cases rx
        cases ry
        obtain ⟨vs, e3, rl⟩ := lst_at s e
        obtain ⟨v, e4, rv⟩ := rl.atI e2
        exact .inl ⟨_, _, _, v, rfl, rfl, SqL.of e3, e4, pe H cs _ _ s rv ho⟩
      · exact ho.elim
    · exact ho.elim
  · exact ho.elim
theorem d_ixM (ha : DE X W a wa) (hb : DE X W b wb) (hs : PlainIx b := by intro _ _; rfl) : DE X W (.Subscript a b pos) (wOp oIxM wa wb) := d_ix ix_seq adq_ixM ha hb hs
/-- methods of lists that change -/
abbrev DMt := D → List D → Cs → DP → Prop
def oAppend : DMt := fun x ds cs P => match x, ds with
  | .opq (.ref p), [d] => (match look p cs with
    | some (.lst xs) => xs.length < 100000 ∧ P .non (put p (.lst (xs ++ [d])) cs)
    | _ => False)
  | _, _ => False
theorem append_inv {x : D} {ds : List D} {cs : Cs} {P : DP} (h : oAppend x ds cs P) : ∃ p d xs, x = .opq (.ref p) ∧ ds = [d] ∧ look p cs = some (.lst xs) ∧ xs.length < 100000 ∧ P .non (put p (.lst (xs ++ [d])) cs) := by
  unfold oAppend at h
  split at h
  · split at h
    · rename_i e
      exact ⟨_, _, _, rfl, rfl, e, h.1, h.2⟩
    · exact h.elim
  · exact h.elim
end
end DL
namespace DL
open PySem L2
def dR (r : Rat) : D := .tup [.int r.num, .int (r.den : Int)]
theorem eqD_int (i j : Int) : eqD (.int i) (.int j) = decide (i = j) := by
  unfold eqD
  rw [Bool.beq_eq_decide_eq]
theorem eqD_dR (r s : Rat) : eqD (dR r) (dR s) = decide (r = s) := by
  unfold dR
  simp only [eqD, eqL, Bool.and_true]
  rw [Bool.beq_eq_decide_eq, Bool.beq_eq_decide_eq, ← Bool.decide_and]
  have e : (r.num = s.num ∧ (r.den : Int) = (s.den : Int)) ↔ r = s := ⟨fun h => Rat.ext h.1 (Int.ofNat_inj.mp h.2), fun h => by rw [h]; exact ⟨rfl, rfl⟩⟩
  exact decide_eq_decide.mpr e
/-- both numbers below 2 ^ n -/
def Sz (n : Nat) (r : Rat) : Prop := r.num.natAbs < 2 ^ n ∧ r.den < 2 ^ n
theorem Sz.mono {n m : Nat} {r : Rat} (h : Sz n r) (l : n ≤ m) : Sz m r :=
  ⟨Nat.lt_of_lt_of_le h.1 (Nat.pow_le_pow_right (by decide) l), Nat.lt_of_lt_of_le h.2 (Nat.pow_le_pow_right (by decide) l)⟩
theorem mulOk_of {i j : Int} {a b : Nat} (ha : i.natAbs < 2 ^ a) (hb : j.natAbs < 2 ^ b) (h : a + b ≤ 900000) : IntMulOk i j := by
  have ha' : i.natAbs < 2 ^ (a + 1) := Nat.lt_of_lt_of_le ha (Nat.pow_le_pow_right (by decide) (Nat.le_succ _))
  have hb' : j.natAbs < 2 ^ (b + 1) := Nat.lt_of_lt_of_le hb (Nat.pow_le_pow_right (by decide) (Nat.le_succ _))
  exact CMulW.ok (wide_mul ha' hb' (Nat.succ_pos _) (Nat.succ_pos _) (by omega))
theorem mulOk_r {i j : Int} (h : j.natAbs < 2 ^ 64) : IntMulOk i j := CMul.ok (Or.inr (by omega))
theorem mulOk_l {i j : Int} (h : i.natAbs < 2 ^ 64) : IntMulOk i j := CMul.ok (Or.inl (by omega))
theorem gcd_pos {a b : Nat} (h : 0 < b) : 0 < Nat.gcd a b := Nat.gcd_pos_of_pos_right a h
/-- what part reckons -/
theorem part_pos (a b : Int) (h : 0 < b) : a / (Nat.gcd a.natAbs b.natAbs : Nat) = (Rat.divInt a b).num ∧ b / (Nat.gcd a.natAbs b.natAbs : Nat) = ((Rat.divInt a b).den : Int) := by
  have e : (Int.gcd b a) = Nat.gcd a.natAbs b.natAbs := by rw [Int.gcd, Nat.gcd_comm]
  constructor
  · rw [Rat.num_divInt, Int.sign_eq_one_of_pos h, Int.one_mul, e]
  · rw [Rat.den_divInt, if_neg (by omega), e]
    have : (b.natAbs : Int) = b := by omega
    rw [Int.natCast_ediv, this]
theorem part_neg (a b : Int) : Rat.divInt (-a) (-b) = Rat.divInt a b := Rat.neg_divInt_neg a b
theorem divInt_add (x y : Rat) : Rat.divInt (x.num * y.den + y.num * x.den) ((x.den : Int) * y.den) = x + y := by
  rw [Rat.add_def', ← Int.natCast_mul, Rat.divInt_ofNat]
theorem divInt_mul (x y : Rat) : Rat.divInt (x.num * y.num) ((x.den : Int) * y.den) = x * y := by
  rw [Rat.mul_def', ← Int.natCast_mul, Rat.divInt_ofNat]
theorem divInt_div (x y : Rat) : Rat.divInt (x.num * y.den) ((x.den : Int) * y.num) = x / y := by
  rw [Rat.div_def, Rat.inv_def, ← Rat.divInt_mul_divInt, Rat.num_divInt_den]
theorem den_ne (x : Rat) : (x.den : Int) ≠ 0 := by have := x.den_nz; omega
theorem den_pos (x : Rat) : (0 : Int) < x.den := by have := x.den_nz; omega
theorem gcd_ok {a b : Nat} (hb : 0 < b) (h : b < 2 ^ 9000) : (0 : Int) < (Nat.gcd a b : Int) ∧ (Nat.gcd a b : Int).natAbs.log2 < 9000 := by
  refine ⟨by have := gcd_pos (a := a) hb; omega, ?_⟩
  refine PySem.Flt.log2_lt_of (by decide) ?_
  rw [Int.natAbs_natCast]
  exact Nat.lt_of_le_of_lt (Nat.gcd_le_right _ hb) h
theorem abs_nat (a : Int) : (if a < 0 then -a else a) = (a.natAbs : Int) := by
  split <;> omega
theorem Sz.divInt {a b : Int} {n m : Nat} (h0 : b ≠ 0) (ha : a.natAbs < 2 ^ n) (hb : b.natAbs < 2 ^ m) (hn : n ≤ m) : Sz m (Rat.divInt a b) := by
  have ha' : a.natAbs < 2 ^ m := Nat.lt_of_lt_of_le ha (Nat.pow_le_pow_right (by decide) hn)
  constructor
  · rw [Rat.num_divInt]
    refine Nat.lt_of_le_of_lt ?_ ha'
    refine Nat.le_trans (Int.natAbs_ediv_le_natAbs _ _) ?_
    rw [Int.natAbs_mul]
    have : b.sign.natAbs ≤ 1 := by
      rcases Int.lt_trichotomy b 0 with h | h | h
      · rw [Int.sign_eq_neg_one_of_neg h]; decide
      · exact absurd h h0
      · rw [Int.sign_eq_one_of_pos h]; decide
    exact Nat.le_trans (Nat.mul_le_mul_right _ this) (by omega)
  · rw [Rat.den_divInt, if_neg h0]
    exact Nat.lt_of_le_of_lt (Nat.div_le_self _ _) hb
theorem lt_mul2 {a b n m : Nat} (ha : a < 2 ^ n) (hb : b < 2 ^ m) : a * b < 2 ^ (n + m) := by
  rw [Nat.pow_add]
  exact Nat.mul_lt_mul'' ha hb
theorem lt_add2 {a b n : Nat} (ha : a < 2 ^ n) (hb : b < 2 ^ n) : a + b < 2 ^ (n + 1) := by
  rw [Nat.pow_succ]; omega
theorem Sz.add {n m : Nat} {x y : Rat} (hx : Sz n x) (hy : Sz m y) : Sz (n + m + 1) (x + y) := by
  rw [← divInt_add]
  refine Sz.divInt (n := n + m + 1) (Int.mul_ne_zero (den_ne x) (den_ne y)) ?_ ?_ (Nat.le_refl _)
  · refine Nat.lt_of_le_of_lt (Int.natAbs_add_le _ _) ?_
    refine lt_add2 ?_ ?_
    · rw [Int.natAbs_mul]; exact lt_mul2 hx.1 hy.2
    · rw [Int.natAbs_mul, Nat.add_comm]; exact lt_mul2 hy.1 hx.2
  · rw [Int.natAbs_mul]
    exact Nat.lt_of_lt_of_le (lt_mul2 hx.2 hy.2) (Nat.pow_le_pow_right (by decide) (Nat.le_succ _))
theorem Sz.neg {n : Nat} {x : Rat} (hx : Sz n x) : Sz n (-x) := ⟨by rw [Rat.neg_num, Int.natAbs_neg]; exact hx.1, by rw [Rat.neg_den]; exact hx.2⟩
theorem Sz.sub {n m : Nat} {x y : Rat} (hx : Sz n x) (hy : Sz m y) : Sz (n + m + 1) (x - y) := by
  rw [Rat.sub_eq_add_neg]; exact hx.add hy.neg
theorem Sz.mul {n m : Nat} {x y : Rat} (hx : Sz n x) (hy : Sz m y) : Sz (n + m) (x * y) := by
  rw [← divInt_mul]
  refine Sz.divInt (n := n + m) (Int.mul_ne_zero (den_ne x) (den_ne y)) ?_ ?_ (Nat.le_refl _)
  · rw [Int.natAbs_mul]; exact lt_mul2 hx.1 hy.1
  · rw [Int.natAbs_mul]; exact lt_mul2 hx.2 hy.2
theorem Sz.div {n m : Nat} {x y : Rat} (hx : Sz n x) (hy : Sz m y) (h : y ≠ 0) : Sz (n + m) (x / y) := by
  rw [← divInt_div]
  refine Sz.divInt (n := n + m) (Int.mul_ne_zero (den_ne x) (fun z => h (Rat.num_eq_zero.mp z))) ?_ ?_ (Nat.le_refl _)
  · rw [Int.natAbs_mul]; exact lt_mul2 hx.1 hy.2
  · rw [Int.natAbs_mul]; exact lt_mul2 hx.2 hy.1
theorem Sz.nn {n m : Nat} {x y : Rat} (hx : Sz n x) (hy : Sz m y) (h : n + m ≤ 900000 := by decide) : IntMulOk x.num y.num := mulOk_of hx.1 hy.1 h
theorem Sz.nd {n m : Nat} {x y : Rat} (hx : Sz n x) (hy : Sz m y) (h : n + m ≤ 900000 := by decide) : IntMulOk x.num (y.den : Int) := mulOk_of hx.1 (by rw [Int.natAbs_natCast]; exact hy.2) h
theorem Sz.dd {n m : Nat} {x y : Rat} (hx : Sz n x) (hy : Sz m y) (h : n + m ≤ 900000 := by decide) : IntMulOk (x.den : Int) (y.den : Int) := mulOk_of (by rw [Int.natAbs_natCast]; exact hx.2) (by rw [Int.natAbs_natCast]; exact hy.2) h
theorem dd_ok {n m : Nat} {x y : Rat} (hx : Sz n x) (hy : Sz m y) (h : n + m ≤ 9000) : ((x.den : Int) * (y.den : Int)).natAbs < 2 ^ 9000 := by
  rw [Int.natAbs_mul]
  exact Nat.lt_of_lt_of_le (lt_mul2 hx.2 hy.2) (Nat.pow_le_pow_right (by decide) h)
/-- the greater of x by y and y by x -/
def shapeR (x y : Rat) : Rat := if x < y then y / x else x / y
theorem Sz.shape {n m : Nat} {x y : Rat} (hx : Sz n x) (hy : Sz m y) (x0 : 0 < x) (y0 : 0 < y) : Sz (n + m) (shapeR x y) := by
  unfold shapeR
  split
  · rw [Nat.add_comm]; exact hy.div hx (Rat.ne_of_gt x0)
  · exact hx.div hy (Rat.ne_of_gt y0)
theorem div_self' {x : Rat} (h : x ≠ 0) : x / x = 1 := by rw [Rat.div_def, Rat.mul_inv_cancel x h]
def liesR (l t w h x y : Rat) : Bool := !decide (x < l) && (decide (x < l + w) && (!decide (y < t) && decide (y < t + h)))
theorem lt_addR {a b : Rat} (h : 0 < b) : a < a + b := by
  have := Rat.add_lt_add_left (c := a) |>.mpr h
  rwa [Rat.add_zero] at this
theorem liesR_lt {l t w h : Rat} (pw : 0 < w) (ph : 0 < h) : liesR l t w h l t = true := by
  unfold liesR
  rw [decide_eq_false (Rat.lt_irrefl (a := l)), decide_eq_false (Rat.lt_irrefl (a := t)), decide_eq_true (lt_addR pw), decide_eq_true (lt_addR ph)]; rfl
end DL
namespace DL
open PySem PySem.Spec PyProof.Rows L2
section
variable {X : Cx} {W : WX} {K : PySem.W.Frag} {σ : L2.St} {H : Hp} {pos : Pos} {a b e : Expr} {es : List Expr} {wa wb we : DL.WE} {w : WA} {name : Str} {apos cpos : Pos} {T id : String}
def AdqM (K : PySem.W.Frag) (T : String) (r : V → List V → Hp → VK → Prop) (o : DMt) : Prop := ∀ F cs H x xs dx ds P Q, Sta K F (pur F cs H) cs H → Rep K (pur F cs H) x dx → RepL K (pur F cs H) xs ds → o dx ds cs P → PostE K F (pur F cs H) P Q → r x xs H Q
def isL (d : D) (cs : Cs) : Prop := match d with
  | .lst _ => True
  | .opq (.ref p) => (match look p cs with
    | some (.lst _) => True
    | _ => False)
  | _ => False
theorem isL_ty {F : Hp} {cs : Cs} {x : V} {dx : D} (s : Sta K F (pur F cs H) cs H) (r : Rep K (pur F cs H) x dx) (h : isL dx cs) : tyV K "list" x H := by
  unfold isL at h
  split at h
  · cases r with
    | lst h r => exact .inl ⟨rfl, _, ex_l pur_le h⟩
  · split at h
    · rename_i e
      obtain ⟨vs, e2, _⟩ := lst_at s e
      cases r
      exact .inl ⟨rfl, _, SqL.of e2⟩
    · exact h.elim
  · exact h.elim
def wMtL (o : DMt) (wo : DL.WE) (w : WA) : DL.WE := fun ρ cs P Z => wo ρ cs (fun x cs1 => isL x cs1 ∧ w ρ cs1 (fun ds cs2 => o x ds cs2 P) Z) Z
theorem d_bmL {r : V → List V → Hp → VK → Prop} {o : DMt} (slot : Slot "list" name id) (hty : typeOf (.builtin id) = pure (.type "method_descriptor")) (hm : MtR X id r) (adq : AdqM X.K "list" r o) (ho : DE X W a wa) (ha : DA X W (e :: es) w)
    (hbase : attributeBase a name X.env (eval a X.env) = eval a X.env := by rfl)
    (hfew : ((backTo cpos (starEach (e :: es) X.env)).all (fun x => !x.1) && (backToKw cpos (keywordEach [] X.env)).all (fun x => x.1.isSome)
      && decide ((e :: es).length + ([] : List Keyword).length + (if ([] : List Keyword).isEmpty then 0 else 1) < 30)) = true := by rfl)
    (hline : (apos.endLine == cpos.line) = true := by rfl) (hs : starEach (e :: es) X.env = (false, eval e X.env) :: starEach es X.env := by rfl) (hplain : (backTo cpos (starEach es X.env)).any (·.1) = false := by rfl) :
    DE X W (.Call (.Attribute a name apos) (e :: es) [] cpos) (wMtL o wa w) := PE.imp (pe_bm PySem.F.plainAttrs_list slot hty hm ho ha hbase hfew hline hs hplain) fun σ H Q h => by
  obtain ⟨F, cs, ρ, P, Z, s, re, hw, pe, px⟩ := h
  refine ⟨F, cs, ρ, _, Z, s, re, hw, fun H1 cs1 x dx s1 r1 h1 => ⟨isL_ty s1.self r1 h1.1, ?_⟩, px⟩
  refine ⟨F, cs1, ρ, _, Z, s1.self, re.mono s1.gr, h1.2, fun H2 cs2 vs ds s2 r2 l2 h2 => ?_, px.le s1.gr⟩
  exact adq F cs2 H2 x vs dx ds P Q s2.self (r1.mono s2.gr) r2 h2 (pe.le (s1.gr.trans s2.gr))
def wMtL0 (o : DMt) (wo : DL.WE) : DL.WE := fun ρ cs P Z => wo ρ cs (fun x cs1 => isL x cs1 ∧ o x [] cs1 P) Z
theorem adq_append : AdqM K "list" rAppend oAppend := fun F cs H x xs dx ds P Q s rx rl ho pe => by
  obtain ⟨p, d, ys, rfl, rfl, hl, hz, h⟩ := append_inv ho
  obtain ⟨vs, e, rv⟩ := lst_at s hl
  cases rx
  cases rl with
  | cons r1 r2 =>
    cases r2
    have s4 := s.put hl (m' := .lst (ys ++ [d])) (o' := .lst (vs ++ [_])) (rv.append (.cons r1 .nil))
    exact ⟨p, vs, _, rfl, rfl, e, by rw [rv.length]; exact Nat.lt_of_lt_of_le hz (by decide), pe _ _ _ _ s4 .non h⟩
theorem d_append (ho : DE X W a wa) (ha : DA X W [e] w) (hbase : attributeBase a "append" X.env (eval a X.env) = eval a X.env := by rfl)
    (hfew : ((backTo cpos (starEach [e] X.env)).all (fun x => !x.1) && (backToKw cpos (keywordEach [] X.env)).all (fun x => x.1.isSome)
      && decide ([e].length + ([] : List Keyword).length + (if ([] : List Keyword).isEmpty then 0 else 1) < 30)) = true := by rfl)
    (hline : (apos.endLine == cpos.line) = true := by rfl) (hs : starEach [e] X.env = (false, eval e X.env) :: starEach [] X.env := by rfl) (hplain : (backTo cpos (starEach [] X.env)).any (·.1) = false := by rfl) :
    DE X W (.Call (.Attribute a "append" apos) [e] [] cpos) (wMtL oAppend wa w) := d_bmL PySem.F.slot_list_append PySem.F.type_list_append mt_append adq_append ho ha hbase hfew hline hs hplain
def cntD (xs : List D) (d : D) : Nat := xs.countP fun y => eqD y d
def oCount : DMt := fun x ds cs P => match x, ds with
  | .lst xs, [d] => plL 20 xs = true ∧ plD 20 d = true ∧ P (.int (cntD xs d : Int)) cs
  | _, _ => False
end
end DL
namespace DL
open PySem PySem.Spec PyProof.Rows L2
section
variable {ρ : DL.Env} {cs : Cs} {P : DP} {Z : XZ} {wa wb we wo wi wv : DL.WE} {w : WA} {ta tb : WT} {u v : WS} {f : Fin} {Q : Bool → Cs → Prop} {d x y : D} {i j : Nat} {PA : List D → Cs → Prop}
section
variable {nx bk ct : DL.Env → Cs → Prop} {rt : D → Cs → Prop} {ex : Exn → DL.Env → Cs → Prop}
theorem r_seq (h : u ⟨fun ρ' cs' => v ⟨nx, rt, ex, bk, ct⟩ ρ' cs', rt, ex, bk, ct⟩ ρ cs) : sSeq u v ⟨nx, rt, ex, bk, ct⟩ ρ cs := h
theorem r_key (N : DL.Env → Cs → Prop) (h1 : ∀ ρ' cs', N ρ' cs' → v ⟨nx, rt, ex, bk, ct⟩ ρ' cs') (h2 : ∀ nx' : DL.Env → Cs → Prop, (∀ ρ' cs', N ρ' cs' → nx' ρ' cs') → u ⟨nx', rt, ex, bk, ct⟩ ρ cs) : sSeq u v ⟨nx, rt, ex, bk, ct⟩ ρ cs := h2 _ h1
theorem r_chk (h2 : ∀ nx' : DL.Env → Cs → Prop, nx' ρ cs → u ⟨nx', rt, ex, bk, ct⟩ ρ cs) (h1 : v ⟨nx, rt, ex, bk, ct⟩ ρ cs) : sSeq u v ⟨nx, rt, ex, bk, ct⟩ ρ cs := h2 _ h1
end
theorem r_loop {g : WG} {wb : WS} (I : Nat → DL.Env → Cs → Prop) : ∀ (xs : List D) (k : Nat) {ρ : DL.Env} {cs : Cs}, I k ρ cs →
    (∀ i d ρ cs (N : DL.Env → Cs → Prop), xs[i]? = some d → I (k + i) ρ cs → (∀ ρ' cs', I (k + i + 1) ρ' cs' → N ρ' cs') → g d ρ fun ρ1 => wb { f with nx := N, ct := N, bk := f.nx } ρ1 cs) →
    (∀ ρ cs, I (k + xs.length) ρ cs → f.nx ρ cs) → loopW g wb f xs ρ cs
  | [], k, ρ, cs, h0, hs, hd => hd ρ cs h0
  | d :: r, k, ρ, cs, h0, hs, hd => by
    refine hs 0 d ρ cs _ rfl h0 fun ρ' cs' h1 => r_loop I r (k + 1) h1 (fun i d ρ cs N e hi hn => ?_) (fun ρ cs h => ?_)
    · have e1 : k + (i + 1) = k + 1 + i := by omega
      refine hs (i + 1) d ρ cs N e (by rw [e1]; exact hi) fun ρ' cs' hh => hn ρ' cs' (by rw [← e1]; exact hh)
    · refine hd ρ cs ?_
      have e1 : k + (d :: r).length = k + 1 + r.length := by rw [List.length_cons]; omega
      rw [e1]; exact h
theorem r_loop0 {nx bk ct : DL.Env → Cs → Prop} {rt : D → Cs → Prop} {ex : Exn → DL.Env → Cs → Prop} {g : WG} {wb : WS} (I : Nat → DL.Env → Cs → Prop) {xs : List D} (h0 : I 0 ρ cs)
    (hs : ∀ i d ρ cs (N : DL.Env → Cs → Prop), xs[i]? = some d → I i ρ cs → (∀ ρ' cs', I (i + 1) ρ' cs' → N ρ' cs') → g d ρ fun ρ1 => wb ⟨N, rt, ex, nx, N⟩ ρ1 cs)
    (hd : ∀ ρ cs, I xs.length ρ cs → nx ρ cs) : loopW g wb ⟨nx, rt, ex, bk, ct⟩ xs ρ cs :=
  r_loop I xs 0 h0 (fun i d ρ cs N e hi hn => hs i d ρ cs N e (by rw [Nat.zero_add] at hi; exact hi) (by rw [Nat.zero_add] at hn; exact hn)) (fun ρ cs h => hd ρ cs (by rw [Nat.zero_add] at h; exact h))
theorem r_while {nx bk ct : DL.Env → Cs → Prop} {rt : D → Cs → Prop} {ex : Exn → DL.Env → Cs → Prop} {wt : WT} {wb : WS} (I : Nat → DL.Env → Cs → Prop) (h0 : ∃ m, I m ρ cs)
    (hs : ∀ m ρ cs (N : DL.Env → Cs → Prop), I m ρ cs → (∀ m' ρ' cs', m' < m → I m' ρ' cs' → N ρ' cs') → wt ρ cs (fun k cs1 => (k = true → wb ⟨N, rt, ex, nx, N⟩ ρ cs1) ∧ (k = false → nx ρ cs1)) (fun x cs1 => ex x ρ cs1)) :
    sWhile wt wb ⟨nx, rt, ex, bk, ct⟩ ρ cs := ⟨I, h0, fun m ρ cs h => hs m ρ cs _ h fun m' ρ' cs' hm hi => ⟨m', hm, hi⟩⟩
theorem r_gN {k : DL.Env → Prop} (h : k (ρ.set i (some d))) : gN i d ρ k := h
theorem r_gT {n : Nat} {gs : WGs} {ds : List D} {k : DL.Env → Prop} (hn : ds.length = n) (h : gs ds ρ k) : gT n gs (.tup ds) ρ k := ⟨hn, h⟩
theorem r_gCn {g : WG} {gs : WGs} {ds : List D} {k : DL.Env → Prop} (h : g d ρ fun ρ' => gs ds ρ' k) : gCn g gs (d :: ds) ρ k := h
theorem r_gNl {k : DL.Env → Prop} (h : k ρ) : gNl [] ρ k := h
theorem rng_get {lo : Int} {n i : Nat} {d : D} (h : (rngD lo n)[i]? = some d) : d = .int (lo + (i : Int)) ∧ i < n := by
  obtain ⟨h1, h2⟩ := List.getElem?_eq_some_iff.mp h
  simp [rngD] at h1 h2
  exact ⟨h2.symm, h1⟩
theorem rng_len (lo : Int) (n : Nat) : (rngD lo n).length = n := by simp [rngD]
theorem r_kT {A B : Prop} (h : A) : (true = true → A) ∧ (true = false → B) := ⟨fun _ => h, fun z => absurd z (by decide)⟩
theorem r_nT {A B : Prop} (h : B) : ((!true) = true → A) ∧ ((!true) = false → B) := ⟨fun z => absurd z (by decide), fun _ => h⟩
theorem r_nF {A B : Prop} (h : A) : ((!false) = true → A) ∧ ((!false) = false → B) := ⟨fun _ => h, fun z => absurd z (by decide)⟩
theorem r_kF {A B : Prop} (h : B) : (false = true → A) ∧ (false = false → B) := ⟨fun z => absurd z (by decide), fun _ => h⟩
section
variable {nx bk ct : DL.Env → Cs → Prop} {rt : D → Cs → Prop} {ex : Exn → DL.Env → Cs → Prop}
theorem r_nx (h : nx ρ cs) : Fin.nx ⟨nx, rt, ex, bk, ct⟩ ρ cs := h
theorem r_rt (h : rt d cs) : Fin.rt ⟨nx, rt, ex, bk, ct⟩ d cs := h
theorem r_bk (h : bk ρ cs) : Fin.bk ⟨nx, rt, ex, bk, ct⟩ ρ cs := h
theorem r_cn (h : ct ρ cs) : Fin.ct ⟨nx, rt, ex, bk, ct⟩ ρ cs := h
end
theorem r_next (h : f.nx ρ cs) : sNext f ρ cs := h
theorem r_ret (h : we ρ cs f.rt (fun x cs1 => f.ex x ρ cs1)) : sRet we f ρ cs := h
theorem r_retN (h : f.rt .non cs) : sRetN f ρ cs := h
theorem r_drop (h : we ρ cs (fun _ cs1 => f.nx ρ cs1) (fun x cs1 => f.ex x ρ cs1)) : sDrop we f ρ cs := h
theorem r_brk (h : f.bk ρ cs) : sBreak f ρ cs := h
theorem r_ct (h : f.ct ρ cs) : sCont f ρ cs := h
theorem r_sif (h : ta ρ cs (fun k cs1 => (k = true → u f ρ cs1) ∧ (k = false → v f ρ cs1)) (fun x cs1 => f.ex x ρ cs1)) : sIf ta u v f ρ cs := h
theorem r_set (h : we ρ cs (fun d cs1 => f.nx (ρ.set i (some d)) cs1) (fun x cs1 => f.ex x ρ cs1)) : sAsg we (gN i) f ρ cs := h
theorem r_asg {g : WG} (h : we ρ cs (fun d cs1 => g d ρ fun ρ' => f.nx ρ' cs1) (fun x cs1 => f.ex x ρ cs1)) : sAsg we g f ρ cs := h
theorem r_par (h : wa ρ cs (fun x cs1 => wb ρ cs1 (fun y cs2 => f.nx ((ρ.set i (some x)).set j (some y)) cs2) (fun x cs1 => f.ex x ρ cs1)) (fun x cs1 => f.ex x ρ cs1)) : sPar i j (wCons wa (wCons wb wNil)) f ρ cs := h
theorem r_setix (h : wv ρ cs (fun v cs1 => wo ρ cs1 (fun x cs2 => wi ρ cs2 (fun i cs3 => oSetL x i v cs3 fun cs4 => f.nx ρ cs4) (fun x cs1 => f.ex x ρ cs1)) (fun x cs1 => f.ex x ρ cs1)) (fun x cs1 => f.ex x ρ cs1)) : sSetIx wv wo wi oSetL f ρ cs := h
theorem r_aug {o : DO2} (hi : ρ[i]? = some (some x)) (h : we ρ cs (fun y cs1 => o x y cs1 fun z cs2 => f.nx (ρ.set i (some z)) cs2) (fun x cs1 => f.ex x ρ cs1)) : sAug i o we f ρ cs := by
  unfold sAug; rw [hi]; exact h
theorem r_for {wi : WI} {g : WG} (h : wi ρ cs (fun xs cs1 => loopW g u f xs ρ cs1) (fun x cs1 => f.ex x ρ cs1)) : sFor wi g u f ρ cs := h
theorem r_var (hi : ρ[i]? = some (some d)) (h : P d cs) : wVar i ρ cs P Z := by
  unfold wVar; rw [hi]; exact h
theorem r_c (h : P d cs) : wC d ρ cs P Z := h
theorem r_op {o : DO2} (h : wa ρ cs (fun x cs1 => wb ρ cs1 (fun y cs2 => o x y cs2 P) Z) Z) : wOp o wa wb ρ cs P Z := h
theorem r_un {o : D → Cs → DP → Prop} (h : wa ρ cs (fun x cs1 => o x cs1 P) Z) : wUn o wa ρ cs P Z := h
theorem r_test (h : wa ρ cs (fun x cs1 => match x with | .bl k => Q k cs1 | _ => False) Z) : wTest wa ρ cs Q Z := h
theorem r_and (h : ta ρ cs (fun k cs1 => (k = true → tb ρ cs1 Q Z) ∧ (k = false → Q false cs1)) Z) : wAnd ta tb ρ cs Q Z := h
theorem r_or (h : ta ρ cs (fun k cs1 => (k = true → Q true cs1) ∧ (k = false → tb ρ cs1 Q Z)) Z) : wOr ta tb ρ cs Q Z := h
theorem r_not (h : ta ρ cs (fun k cs1 => Q (!k) cs1) Z) : wNot ta ρ cs Q Z := h
theorem r_if (h : ta ρ cs (fun k cs1 => (k = true → wa ρ cs1 P Z) ∧ (k = false → wb ρ cs1 P Z)) Z) : wIf ta wa wb ρ cs P Z := h
theorem r_andV (h : wa ρ cs (fun x cs1 => match x with | .bl k => (k = true → wb ρ cs1 P Z) ∧ (k = false → P (.bl false) cs1) | _ => False) Z) : wAndV wa wb ρ cs P Z := h
theorem r_orV (h : wa ρ cs (fun x cs1 => match x with | .bl k => (k = true → P (.bl true) cs1) ∧ (k = false → wb ρ cs1 P Z) | _ => False) Z) : wOrV wa wb ρ cs P Z := h
theorem r_notV (h : wa ρ cs (fun x cs1 => match x with | .bl k => P (.bl (!k)) cs1 | _ => False) Z) : wNotV wa ρ cs P Z := h
theorem r_nil (h : PA [] cs) : wNil ρ cs PA Z := h
theorem r_cons (h : we ρ cs (fun x cs1 => w ρ cs1 (fun xs cs2 => PA (x :: xs) cs2) Z) Z) : wCons we w ρ cs PA Z := h
theorem r_tup (h : w ρ cs (fun ds cs1 => P (.tup ds) cs1) Z) : wTup w ρ cs P Z := h
theorem r_lst (h : w ρ cs (fun ds cs1 => P (.lst ds) cs1) Z) : wLst w ρ cs P Z := h
theorem r_cb {o : DOn} (h : w ρ cs (fun ds cs1 => o ds cs1 P) Z) : wCB o w ρ cs P Z := h
theorem r_call {sp : DSp} (h : w ρ cs (fun ds cs1 => sp ds cs1 P Z) Z) : wCall sp [] w ρ cs P Z := by
  unfold wCall
  have e : (fun (ds : List D) (cs1 : Cs) => sp (ds ++ []) cs1 P Z) = fun ds cs1 => sp ds cs1 P Z := by
    funext ds cs1
    rw [List.append_nil]
  rw [e]
  exact h
theorem r_mtL {o : DMt} (h : wo ρ cs (fun x cs1 => isL x cs1 ∧ w ρ cs1 (fun ds cs2 => o x ds cs2 P) Z) Z) : wMtL o wo w ρ cs P Z := h
theorem r_mtL0 {o : DMt} (h : wo ρ cs (fun x cs1 => isL x cs1 ∧ o x [] cs1 P) Z) : wMtL0 o wo ρ cs P Z := h
variable {a b : Int} {p : Addr} {xs : List D}
theorem r_add (h : P (.int (a + b)) cs) : oAdd (.int a) (.int b) cs P := h
theorem r_sub (h : P (.int (a - b)) cs) : oSub (.int a) (.int b) cs P := h
theorem r_mul (hm : IntMulOk a b) (h : P (.int (a * b)) cs) : oMul (.int a) (.int b) cs P := ⟨hm, h⟩
theorem r_div (hm : 0 < b ∧ b.natAbs.log2 < 9000) (h : P (.int (a / b)) cs) : oDiv (.int a) (.int b) cs P := ⟨hm, h⟩
theorem r_mod (hm : 0 < b) (h : P (.int (a % b)) cs) : oMod (.int a) (.int b) cs P := ⟨hm, h⟩
theorem r_pow (hm : CPow a b) (h : P (.int (a ^ b.toNat)) cs) : oPow (.int a) (.int b) cs P := ⟨hm, h⟩
theorem r_lt (h : P (.bl (decide (a < b))) cs) : oLt (.int a) (.int b) cs P := h
theorem r_le (h : P (.bl (decide (a ≤ b))) cs) : oLe (.int a) (.int b) cs P := h
theorem r_gt (h : P (.bl (decide (b < a))) cs) : oGt (.int a) (.int b) cs P := h
theorem r_ge (h : P (.bl (decide (b ≤ a))) cs) : oGe (.int a) (.int b) cs P := h
theorem r_neg (h : P (.int (-a)) cs) : oNeg (.int a) cs P := h
theorem r_eqI (h : P (.bl (decide (a = b))) cs) : oEq (.int a) (.int b) cs P := ⟨rfl, rfl, by rw [eqD_int]; exact h⟩
theorem r_neI (h : P (.bl (!decide (a = b))) cs) : oNe (.int a) (.int b) cs P := ⟨rfl, rfl, by rw [eqD_int]; exact h⟩
theorem r_eqS {s t : Str} (h : P (.bl (decide (s = t))) cs) : oEq (.str s) (.str t) cs P := ⟨rfl, rfl, by
  have e : eqD (.str s) (.str t) = decide (s = t) := by unfold eqD; rw [Bool.beq_eq_decide_eq]
  rw [e]; exact h⟩
theorem r_neS {s t : Str} (h : P (.bl (!decide (s = t))) cs) : oNe (.str s) (.str t) cs P := ⟨rfl, rfl, by
  have e : eqD (.str s) (.str t) = decide (s = t) := by unfold eqD; rw [Bool.beq_eq_decide_eq]
  rw [e]; exact h⟩
theorem eqD_bl (k l : Bool) : eqD (.bl k) (.bl l) = (k == l) := by unfold eqD; rfl
theorem r_eqB {k l : Bool} (h : P (.bl (k == l)) cs) : oEq (.bl k) (.bl l) cs P := ⟨rfl, rfl, by rw [eqD_bl]; exact h⟩
theorem r_neB {k l : Bool} (h : P (.bl (!(k == l))) cs) : oNe (.bl k) (.bl l) cs P := ⟨rfl, rfl, by rw [eqD_bl]; exact h⟩
theorem plD_dR (r : Rat) {n : Nat} : plD (n + 1) (dR r) = true := by
  cases n <;> rfl
theorem r_eqR {r s : Rat} (h : P (.bl (decide (r = s))) cs) : oEq (dR r) (dR s) cs P := ⟨plD_dR r, plD_dR s, by rw [eqD_dR]; exact h⟩
theorem r_neR {r s : Rat} (h : P (.bl (!decide (r = s))) cs) : oNe (dR r) (dR s) cs P := ⟨plD_dR r, plD_dR s, by rw [eqD_dR]; exact h⟩
theorem r_ixT (hi : atD xs a = some d) (h : P d cs) : oIx (.tup xs) (.int a) cs P := by
  unfold oIx; simp only [hi]; exact h
theorem r_ixL (hi : atD xs a = some d) (h : P d cs) : oIx (.lst xs) (.int a) cs P := by
  unfold oIx; simp only [hi]; exact h
theorem r_ixR0 {r : Rat} (h : P (.int r.num) cs) : oIx (dR r) (.int 0) cs P := h
theorem r_ixR1 {r : Rat} (h : P (.int (r.den : Int)) cs) : oIx (dR r) (.int 1) cs P := h
theorem r_ixM (hl : look p cs = some (.lst xs)) (hi : atD xs a = some d) (h : P d cs) : oIxM (.opq (.ref p)) (.int a) cs P := by
  unfold oIxM; simp only [hl, hi]; exact h
theorem r_setL {R : Cs → Prop} (hl : look p cs = some (.lst xs)) (hi : ixN xs.length a = some j) (h : R (put p (.lst (xs.set j d)) cs)) : oSetL (.opq (.ref p)) (.int a) d cs R := by
  unfold oSetL; simp only [hl, hi]; exact h
theorem r_abs (h : P (.int (if a < 0 then -a else a)) cs) : oAbs [.int a] cs P := h
theorem r_lenL (h : P (.int (xs.length : Int)) cs) : oLen [.lst xs] cs P := h
theorem r_lenT (h : P (.int (xs.length : Int)) cs) : oLen [.tup xs] cs P := h
theorem r_listL (h : P (.lst xs) cs) : oList [.lst xs] cs P := h
theorem r_listT (h : P (.lst xs) cs) : oList [.tup xs] cs P := h
theorem r_append (hl : look p cs = some (.lst xs)) (hz : xs.length < 100000) (h : P .non (put p (.lst (xs ++ [d])) cs)) : oAppend (.opq (.ref p)) [d] cs P := by
  unfold oAppend; simp only [hl]; exact ⟨hz, h⟩
theorem r_isM (hl : look p cs = some (.lst xs)) {R : Prop} (h : R) : isL (.opq (.ref p)) cs ∧ R := ⟨by unfold isL; simp only [hl], h⟩
theorem r_isL {R : Prop} (h : R) : isL (.lst xs) cs ∧ R := ⟨trivial, h⟩
theorem r_count (h1 : plL 20 xs = true) (h2 : plD 20 d = true) (h : P (.int (cntD xs d : Int)) cs) : oCount (.lst xs) [d] cs P := ⟨h1, h2, h⟩
theorem r_seqI {R : List D → Cs → Prop} (h : we ρ cs (fun d cs1 => match d with | .lst xs => R xs cs1 | _ => False) Z) : iSeq we ρ cs R Z := h
theorem r_tupI {R : List D → Cs → Prop} (h : we ρ cs (fun d cs1 => match d with | .tup xs => R xs cs1 | _ => False) Z) : iTupD we ρ cs R Z := h
theorem r_rg1 {R : List D → Cs → Prop} (h : we ρ cs (fun d cs1 => match d with | .int j => (-(2 ^ 62) ≤ j ∧ j < 2 ^ 62) ∧ R (rngD 0 j.toNat) cs1 | _ => False) Z) : iRg1 (wCons we wNil) ρ cs R Z := by
  unfold iRg1 wCons wNil
  have e : (fun (d : D) (cs1 : Cs) => (match [d] with | [D.int j] => (-(2 ^ 62) ≤ j ∧ j < 2 ^ 62) ∧ R (rngD 0 j.toNat) cs1 | _ => False)) = fun d cs1 => match d with | .int j => (-(2 ^ 62) ≤ j ∧ j < 2 ^ 62) ∧ R (rngD 0 j.toNat) cs1 | _ => False := by
    funext d cs1
    cases d <;> rfl
  rw [← e] at h
  exact h
theorem divOk {b : Int} (h : 0 < b) (h2 : b < 2 ^ 60) : 0 < b ∧ b.natAbs.log2 < 9000 := by
  refine ⟨h, ?_⟩
  have e : b.natAbs < 2 ^ 60 := by omega
  exact Nat.lt_of_lt_of_le (PySem.Flt.log2_lt_of (by decide) e) (by decide)
theorem put_look {p : Addr} {m : MO} : ∀ {cs : Cs}, look p cs = some m → put p m cs = cs
  | [], h => by cases h
  | (a, x) :: r, h => by
    unfold look at h
    unfold put
    split at h
    · rename_i e
      cases h
      rw [if_pos e]
    · rename_i e
      rw [if_neg e, put_look h]
theorem decT {p : Prop} [Decidable p] (h : decide p = true) : p := of_decide_eq_true h
theorem decF {p : Prop} [Decidable p] (h : decide p = false) : ¬ p := of_decide_eq_false h
theorem ndecT {p : Prop} [Decidable p] (h : (!decide p) = true) : ¬ p := by simpa using h
theorem ndecF {p : Prop} [Decidable p] (h : (!decide p) = false) : p := by simpa using h
end
end DL
namespace DL
open PySem PySem.Spec PyProof.Rows L2
section
variable {X : Cx} {W : WX} {K : PySem.W.Frag} {σ : L2.St} {H : Hp} {pos : Pos} {a b e : Expr} {es : List Expr} {wa wb we : DL.WE} {w : WA}
theorem d_ty {x : Str} {n : String} (hg : Gl X x) (hm : X.mg x = none) (hv : bootBuiltins x = some (.type n)) (hn : x ≠ "__name__" := by decide) (hd : (x == ("__debug__" : Str)) = false := by decide) : DE X W (.Name x pos) (wC (.opq (.ty n))) :=
  d_of (pe_bltn hg hm hv (v := .ty n) rfl hn hd) fun _ => .opq _
def tyS : D → Option String
  | .non => some "NoneType"
  | .bl _ => some "bool"
  | .int _ => some "int"
  | .str _ => some "str"
  | .tup _ => some "tuple"
  | .lst _ => some "list"
  | .dic _ => some "dict"
  | _ => none
def isT (t n : String) : Bool := t == n || (t == "bool" && n == "int")
theorem isT_kit : (["NoneType", "bool", "int", "str", "tuple", "list", "dict"].all fun t => ["bool", "int", "str", "tuple", "list", "dict"].all fun n => kitB t n == some (isT t n)) = true := by decide +kernel
theorem isT_ok {d : D} {t n : String} (h : tyS d = some t) (hn : (["bool", "int", "str", "tuple", "list", "dict"].contains n) = true) : PySem.W.kitOne K (.type t) (.type n) = some (isT t n) := by
  refine kit_ty ?_
  have h1 : t ∈ ["NoneType", "bool", "int", "str", "tuple", "list", "dict"] := by
    cases d <;> simp [tyS] at h <;> subst h <;> decide
  have h2 : n ∈ ["bool", "int", "str", "tuple", "list", "dict"] := by simpa using hn
  exact eq_of_beq (List.all_eq_true.mp (List.all_eq_true.mp isT_kit t h1) n h2)
theorem tyX_of {F : Hp} {cs : Cs} {x : V} {d : D} {t : String} (r : Rep K (pur F cs H) x d) (h : tyS d = some t) : TyX K H x (.type t) := by
  cases r with
  | non => simp [tyS] at h; subst h; exact .base .non
  | bl b => simp [tyS] at h; subst h; exact .base (.bl b)
  | int i => simp [tyS] at h; subst h; exact .base (.int i)
  | str x => simp [tyS] at h; subst h; exact .base (.str x)
  | opq v => simp [tyS] at h
  | lst h1 r =>
    simp [tyS] at h; subst h
    rcases ex_l pur_le h1 with (q | ⟨o, q⟩) | ⟨o, its, n, q, c, _⟩
    · exact .base (.lst q)
    · exact .base (.frz q)
    · exact .kList q c
  | tup h1 r =>
    simp [tyS] at h; subst h
    rcases ex_t pur_le h1 with (q | ⟨o, q⟩) | ⟨o, its, n, q, c, _⟩
    · exact .base (.tup q)
    · exact .fTuple q
    · exact .kTuple q c
  | dic h1 r =>
    simp [tyS] at h; subst h
    exact .fDict (pur_le _ _ h1)
  | dct h1 r => simp [tyS] at h
  | ins h1 h2 r => simp [tyS] at h
  | xcp h1 r => simp [tyS] at h
def isiD (d : D) (n : String) : Option Bool := (tyS d).bind fun t => if (["bool", "int", "str", "tuple", "list", "dict"].contains n) = true then some (isT t n) else none
def oIsi : DOn := fun ds cs P => match ds with
  | [d, .opq (.ty n)] => (match isiD d n with
    | some k => P (.bl k) cs
    | none => False)
  | _ => False
theorem isiD_inv {d : D} {n : String} {k : Bool} (h : isiD d n = some k) : ∃ t, tyS d = some t ∧ (["bool", "int", "str", "tuple", "list", "dict"].contains n) = true ∧ k = isT t n := by
  unfold isiD at h
  cases e : tyS d with
  | none => rw [e] at h; cases h
  | some t =>
    rw [e, Option.bind_some] at h
    split at h
    · rename_i hn
      cases h
      exact ⟨t, rfl, hn, rfl⟩
    · cases h
theorem adq_isi : AdqN K (rIsi K) oIsi := fun F cs H xs ds P Q s r ho pe => by
  unfold oIsi at ho
  split at ho
  · split at ho
    · rename_i k e
      obtain ⟨t, h1, h2, h3⟩ := isiD_inv e
      cases r with
      | cons r1 r2 =>
        cases r2 with
        | cons r2 r3 =>
          cases r3
          cases r2
          exact ⟨_, _, _, _, k, rfl, .ty _, tyX_of r1 h1, by rw [h3]; exact isT_ok h1 h2, pe H cs _ _ s (.bl _) ho⟩
    · exact ho.elim
  · exact ho.elim
/-- isinstance(x, (T1, T2, ..)) -/
def tyNames : List D → Option (List String)
  | [] => some []
  | .opq (.ty n) :: r => if (["bool", "int", "str", "tuple", "list", "dict"].contains n) = true then (tyNames r).map (n :: ·) else none
  | _ => none
def oIsiT : DOn := fun ds cs P => match ds with
  | [d, .tup ts] => (match tyS d, tyNames ts with
    | some t, some ns => P (.bl (ns.any fun n => isT t n)) cs
    | _, _ => False)
  | _ => False
def blsOf : List D → Option (List Bool)
  | [] => some []
  | .bl i :: r => (blsOf r).map (i :: ·)
  | _ => none
theorem blsOf_map (ns : List Bool) : blsOf (ns.map D.bl) = some ns := by
  induction ns with
  | nil => rfl
  | cons n ns ih => rw [List.map_cons]; unfold blsOf; rw [ih]; rfl
theorem blsOf_inv : ∀ {ds : List D} {ns : List Bool}, blsOf ds = some ns → ds = ns.map D.bl
  | [], ns, h => by cases h; rfl
  | d :: r, ns, h => by
    cases d <;> try (simp [blsOf] at h; done)
    unfold blsOf at h
    cases e : blsOf r with
    | none => rw [e] at h; cases h
    | some ms => rw [e] at h; cases h; rw [blsOf_inv e]; rfl
def oAll : DOn := fun ds cs P => match ds with
  | [.lst xs] => (match blsOf xs with
    | some bs => P (.bl (bs.all id)) cs
    | none => False)
  | _ => False
theorem adq_all : AdqN K (rAll K) oAll := fun F cs H xs ds P Q s r ho pe => by
  unfold oAll at ho
  split at ho
  · split at ho
    · rename_i ns e
      have e1 := blsOf_inv e
      cases r with
      | cons r1 r2 =>
        cases r2
        cases r1 with
        | lst h r =>
          rw [e1] at r
          have e2 := RepL.bls ns r
          subst e2
          exact ⟨_, ns, rfl, ex_l pur_le h, pe H cs _ _ s (.bl _) ho⟩
    · exact ho.elim
  · exact ho.elim
def oTuple : DOn := fun ds cs P => match ds with
  | [.lst xs] => P (.tup xs) cs
  | [.tup xs] => P (.tup xs) cs
  | _ => False
theorem adq_tuple : AdqN K (fun xs H Q => ∃ p ys, xs = [.ref p] ∧ ((SqL K H p ys ∧ ∀ l, H l = none → Q (.ref l) (upd H l (.tup ys))) ∨ (SqT K H p ys ∧ Q (.ref p) H))) oTuple := fun F cs H xs ds P Q s r ho pe => by
  unfold oTuple at ho
  split at ho
  · cases r with
    | cons r1 r2 =>
      cases r2
      cases r1 with
      | lst h r =>
        refine ⟨_, _, rfl, .inl ⟨ex_l pur_le h, fun l hl => ?_⟩⟩
        obtain ⟨s2, e2⟩ := s.new (o := .tup _) hl
        exact pe _ cs _ _ s2 (.tup (SqT.of e2) (r.mono s2.gr)) ho
  · cases r with
    | cons r1 r2 =>
      cases r2
      cases r1 with
      | tup h r => exact ⟨_, _, rfl, .inr ⟨ex_t pur_le h, pe H cs _ _ s (.tup h r) ho⟩⟩
  · exact ho.elim
def oSlT : D → Option Int → Option Int → Cs → DP → Prop := fun x lo hi cs P => match x with
  | .tup xs => P (.tup (cutD xs lo hi)) cs
  | _ => False
def oCatT : DO2 := fun x y cs P => match x, y with
  | .tup xs, .tup ys => xs.length + ys.length ≤ 100000 ∧ P (.tup (xs ++ ys)) cs
  | _, _ => False
theorem adq_catT : Adq K (rCatA K) oCatT := fun F cs H x y dx dy P Q s rx ry ho pe => by
  unfold oCatT at ho
  split at ho
  · obtain ⟨hz, ho⟩ := ho
    cases rx with
    | @tup _ vs _ hx r1 =>
      cases ry with
      | @tup _ us _ hy r2 =>
        refine ⟨_, _, vs, us, rfl, rfl, ex_t pur_le hx, ex_t pur_le hy, by rw [r1.length, r2.length]; exact Nat.le_trans hz (by decide), fun e => ?_, fun _ e => ?_, fun _ _ p hp => ?_⟩
        · subst e
          cases r1
          exact pe H cs _ _ s (.tup hy r2) ho
        · subst e
          cases r2
          rw [List.append_nil] at ho
          exact pe H cs _ _ s (.tup hx r1) ho
        · obtain ⟨s2, e2⟩ := s.new (o := .tup (vs ++ us)) hp
          exact pe _ cs _ _ s2 (.tup (SqT.of e2) ((r1.append r2).mono s2.gr)) ho
  · exact ho.elim
theorem d_catT (ha : DE X W a wa) (hb : DE X W b wb) : DE X W (.BinOp a .Add b pos) (wOp oCatT wa wb) := d_op op_catA adq_catT ha hb
theorem yi_zipL {G : Hp} {p q : Addr} {xs ys : List V} {ds es : List D} (h1 : SqL K G p xs) (r1 : RepL K G xs ds) (h2 : SqL K G q ys) (r2 : RepL K G ys es) : YI K (Itz K p q) G (List.zipWith (fun d e => D.tup [d, e]) ds es) where
  go := fun i d e F cs H s => by
    rw [List.getElem?_zipWith] at e
    cases e1 : ds[i]? with
    | none => rw [e1] at e; cases e
    | some x => cases e2 : es[i]? with
      | none => rw [e1, e2] at e; cases e
      | some y =>
        obtain ⟨v, a1, _⟩ := r1.get e1
        obtain ⟨u, a2, _⟩ := r2.get e2
        exact ⟨xs, ys, v, u, ex_l (s.gr.trans pur_le) h1, ex_l (s.gr.trans pur_le) h2, a1, a2⟩
  yld := fun i d e F cs H x H' s hy => by
    obtain ⟨T, v, u, rfl, hT, rfl, k1, k2⟩ := hy
    rw [List.getElem?_zipWith] at e
    cases e1 : ds[i]? with
    | none => rw [e1] at e; cases e
    | some dx => cases e2 : es[i]? with
      | none => rw [e1, e2] at e; cases e
      | some dy =>
        rw [e1, e2] at e
        cases e
        obtain ⟨v', a1, b1⟩ := r1.get e1
        obtain ⟨u', a2, b2⟩ := r2.get e2
        have c1 := k1 xs (ex_l (s.gr.trans pur_le) h1)
        have c2 := k2 ys (ex_l (s.gr.trans pur_le) h2)
        rw [a1] at c1; rw [a2] at c2
        obtain rfl := Option.some.inj c1
        obtain rfl := Option.some.inj c2
        obtain ⟨s2, e3⟩ := s.new (o := .tup [_, _]) hT
        exact ⟨s2, .tup (SqT.of e3) (.cons (b1.mono (s.gr.trans s2.gr)) (.cons (b2.mono (s.gr.trans s2.gr)) .nil))⟩
  stop := fun F cs H s => by
    refine ⟨xs, ys, ex_l (s.gr.trans pur_le) h1, ex_l (s.gr.trans pur_le) h2, ?_⟩
    rw [List.length_zipWith, r1.length, r2.length]; omega
theorem yi_zipT {G : Hp} {p q : Addr} {xs ys : List V} {ds es : List D} (h1 : SqT K G p xs) (r1 : RepL K G xs ds) (h2 : SqT K G q ys) (r2 : RepL K G ys es) : YI K (RZ.ItzT K p q) G (List.zipWith (fun d e => D.tup [d, e]) ds es) where
  go := fun i d e F cs H s => by
    rw [List.getElem?_zipWith] at e
    cases e1 : ds[i]? with
    | none => rw [e1] at e; cases e
    | some x => cases e2 : es[i]? with
      | none => rw [e1, e2] at e; cases e
      | some y =>
        obtain ⟨v, a1, _⟩ := r1.get e1
        obtain ⟨u, a2, _⟩ := r2.get e2
        exact ⟨xs, ys, v, u, ex_t (s.gr.trans pur_le) h1, ex_t (s.gr.trans pur_le) h2, a1, a2⟩
  yld := fun i d e F cs H x H' s hy => by
    obtain ⟨T, v, u, rfl, hT, rfl, k1, k2⟩ := hy
    rw [List.getElem?_zipWith] at e
    cases e1 : ds[i]? with
    | none => rw [e1] at e; cases e
    | some dx => cases e2 : es[i]? with
      | none => rw [e1, e2] at e; cases e
      | some dy =>
        rw [e1, e2] at e
        cases e
        obtain ⟨v', a1, b1⟩ := r1.get e1
        obtain ⟨u', a2, b2⟩ := r2.get e2
        have c1 := k1 xs (ex_t (s.gr.trans pur_le) h1)
        have c2 := k2 ys (ex_t (s.gr.trans pur_le) h2)
        rw [a1] at c1; rw [a2] at c2
        obtain rfl := Option.some.inj c1
        obtain rfl := Option.some.inj c2
        obtain ⟨s2, e3⟩ := s.new (o := .tup [_, _]) hT
        exact ⟨s2, .tup (SqT.of e3) (.cons (b1.mono (s.gr.trans s2.gr)) (.cons (b2.mono (s.gr.trans s2.gr)) .nil))⟩
  stop := fun F cs H s => by
    refine ⟨xs, ys, ex_t (s.gr.trans pur_le) h1, ex_t (s.gr.trans pur_le) h2, ?_⟩
    rw [List.length_zipWith, r1.length, r2.length]; omega
def iZp (w : WA) : WI := fun ρ cs P Z => w ρ cs (fun ds cs1 => match ds with
  | [.lst xs, .lst ys] => P (List.zipWith (fun d e => D.tup [d, e]) xs ys) cs1
  | [.tup xs, .tup ys] => P (List.zipWith (fun d e => D.tup [d, e]) xs ys) cs1
  | _ => False) Z
theorem zp_inv {ds : List D} {g : List D → List D → Prop} (h : (match ds with | [D.lst xs, D.lst ys] => g xs ys | [D.tup xs, D.tup ys] => g xs ys | _ => False)) : ∃ xs ys, (ds = [.lst xs, .lst ys] ∨ ds = [.tup xs, .tup ys]) ∧ g xs ys := by
  match ds, h with
  | [D.lst xs, D.lst ys], h => exact ⟨xs, ys, .inl rfl, h⟩
  | [D.tup xs, D.tup ys], h => exact ⟨xs, ys, .inr rfl, h⟩
theorem di_zip {e2 : Expr} {p tpos : Pos} {elts : List Expr} {kk : Nat} (hg : Gl X "zip") (hm : X.mg "zip" = none) (ha : DA X W [e, e2] w)
    (hs : starEach [e, e2] X.env = (false, eval e X.env) :: starEach [e2] X.env := by rfl) (hpl : (backTo pos (starEach [e2] X.env)).any (·.1) = false := by rfl) :
    DI X W (.Tuple elts kk tpos) (.Call (.Name "zip" p) [e, e2] [] pos) (iZp w) := PI.imp (RZ.pi_zipA hg hm ha hs hpl) fun σ H R hq => by
  obtain ⟨F, cs, ρ, P, Z, s, re, hw, pe, px⟩ := hq
  refine ⟨F, cs, ρ, _, Z, s, re, hw, fun H1 cs1 vs ds s1 r1 l1 h1 => ?_, px⟩
  obtain ⟨xs, ys, e1, h⟩ := zp_inv h1
  rcases e1 with e1 | e1
  · subst e1
    cases r1 with
    | cons r1 r2 =>
      cases r2 with
      | cons r2 r3 =>
        cases r3
        cases r1 with
        | lst a1 b1 =>
          cases r2 with
          | lst a2 b2 => exact ⟨_, _, _, _, rfl, .inl ⟨ex_l pur_le a1, ex_l pur_le a2, pe H1 cs1 _ _ s1 (yi_zipL a1 b1 a2 b2) h⟩⟩
  · subst e1
    cases r1 with
    | cons r1 r2 =>
      cases r2 with
      | cons r2 r3 =>
        cases r3
        cases r1 with
        | tup a1 b1 =>
          cases r2 with
          | tup a2 b2 => exact ⟨_, _, _, _, rfl, .inr ⟨ex_t pur_le a1, ex_t pur_le a2, pe H1 cs1 _ _ s1 (yi_zipT a1 b1 a2 b2) h⟩⟩
end
abbrev W0 : WX := fun _ _ _ _ => False
abbrev Z0 : XZ := fun _ _ => False
section
variable {X : Cx} {W : WX} {K : PySem.W.Frag} {σ : L2.St} {H : Hp}
def compW (g : WG) (wt : WT) (we : DL.WE) : List D → DL.Env → Cs → List D → (List D → Cs → Prop) → Prop
  | [], _, cs, acc, P => P acc cs
  | d :: r, ρ, cs, acc, P => g d ρ fun ρ1 => wt ρ1 cs (fun k cs1 => (k = true → we ρ1 cs1 (fun y cs2 => compW g wt we r ρ cs2 (acc ++ [y]) P) Z0) ∧ (k = false → compW g wt we r ρ cs1 acc P)) Z0
def wipeD (ρ : DL.Env) : List Nat → DL.Env
  | [] => ρ
  | v :: vs => (wipeD ρ vs).set v none
def wComp (wi : WI) (g : WG) (wt : WT) (we : DL.WE) (vs : List Nat) : DL.WE := fun ρ cs P Z => wi ρ cs (fun xs cs1 => xs.length ≤ 100000 ∧ compW g wt we xs (wipeD ρ vs) cs1 [] (fun ds cs2 => P (.lst ds) cs2)) Z
def wYes : WT := fun _ cs P _ => P true cs
theorem yes_ok {Q : Bool → Hp → Prop} (h : lT K W wYes σ H Q) : tYes σ H Q := by
  obtain ⟨F, cs, ρ, P, Z, s, re, hw, pe, px⟩ := h
  exact pe H cs true s hw
theorem PTs.imp {X : Cx} {ifs : List Expr} {t t' : TT} (h : PTs X ifs t) (i : ∀ σ H Q, t' σ H Q → t σ H Q) : PTs X ifs t' := ⟨fun pins s σ H Q I q => h.run pins s σ H Q I (i σ H Q q)⟩
theorem dts_nil : PTs X [] (lT X.K W wYes) := PTs.imp pts_nil fun _ _ _ h => yes_ok h
theorem dts_one {c : Expr} {wt : WT} (h : DT X W c wt) : PTs X [c] (lT X.K W wt) := pts_one h
theorem RepE.setN {G : Hp} {σ : L2.St} {ρ : DL.Env} (r : RepE K G σ ρ) : ∀ i, RepE K G (σ.set i none) (ρ.set i none) := fun i => by
  induction r generalizing i with
  | nil => exact .nil
  | cons h r ih => cases i with
    | zero => exact .cons .skip r
    | succ i => exact .cons h (ih i)
theorem RepE.wipe {G : Hp} {σ : L2.St} {ρ : DL.Env} (r : RepE K G σ ρ) : ∀ vs, RepE K G (L2.wipe σ vs) (wipeD ρ vs)
  | [] => r
  | v :: vs => (RepE.wipe r vs).setN v
theorem set_none_comm (σ : L2.St) (i j : Nat) (v : Option V) (h : i ≠ j) : (σ.set i v).set j none = (σ.set j none).set i v := (List.set_comm v none h)
theorem wipe_set {σ : L2.St} {i : Nat} {v : Option V} : ∀ {vs : List Nat}, i ∈ vs → L2.wipe (σ.set i v) vs = L2.wipe σ vs
  | [], h => by cases h
  | a :: vs, h => by
    unfold L2.wipe
    by_cases hi : i ∈ vs
    · rw [wipe_set hi]
    · have e : i = a := by
        rcases List.mem_cons.mp h with z | z
        · exact z
        · exact absurd z hi
      subst e
      have key : ∀ (vs : List Nat), i ∉ vs → L2.wipe (σ.set i v) vs = (L2.wipe σ vs).set i v := by
        intro vs
        induction vs with
        | nil => intro _; rfl
        | cons b bs ih =>
          intro hb
          have h1 : i ≠ b := fun z => hb (z ▸ List.mem_cons_self ..)
          unfold L2.wipe
          rw [ih fun z => hb (List.mem_cons_of_mem _ z), set_none_comm _ _ _ _ h1]
      rw [key vs hi, List.set_set]
theorem wipe_wipe {σ : L2.St} : ∀ {vs : List Nat}, L2.wipe (L2.wipe σ vs) vs = L2.wipe σ vs := by
  intro vs
  have key : ∀ (us : List Nat), (∀ u ∈ us, u ∈ vs) → L2.wipe (L2.wipe σ us) vs = L2.wipe σ vs := by
    intro us
    induction us with
    | nil => intro _; rfl
    | cons a us ih =>
      intro h
      have e : L2.wipe σ (a :: us) = (L2.wipe σ us).set a none := rfl
      rw [e, wipe_set (h a (List.mem_cons_self ..)), ih fun u hu => h u (List.mem_cons_of_mem _ hu)]
  exact key vs fun _ h => h
/-- a thing of ours is put aside -/
theorem ft_upd {F : Hp} {p : Addr} {o : HO} (h : ∀ a xs, F a ≠ some (.tup xs)) (ho : ∀ xs, o ≠ .tup xs) : ∀ a xs, upd F p o a ≠ some (.tup xs) := fun a xs e => by
  by_cases hb : a = p
  · rw [hb, upd_same] at e; exact ho xs (Option.some.inj e)
  · rw [upd_ne hb] at e; exact h a xs e
theorem ft_back {F : Hp} {p : Addr} {o : HO} (h : ∀ a xs, upd F p o a ≠ some (.tup xs)) (hF : F p = none) : ∀ a xs, F a ≠ some (.tup xs) := fun a xs e => by
  refine h a xs ?_
  rw [upd_ne (fun z => by rw [z, hF] at e; cases e)]; exact e
theorem Sta.aside {F G0 : Hp} {cs : Cs} {p : Addr} {o : HO} (s : Sta K F G0 cs H) (h : H p = none) (ho : ∀ xs, o ≠ .tup xs := by intro _ z; cases z) : Sta K (upd F p o) (pur F cs H) cs (upd H p o) := by
  obtain ⟨hF, hc⟩ := s.notin h
  have g : Ex (pur F cs H) (pur (upd F p o) cs (upd H p o)) := fun b u e => by
    obtain ⟨e1, e2, e3⟩ := pur_of e
    have hb : b ≠ p := ne_of_none e1 h
    rw [pur_at (by rw [upd_ne hb]; exact e2) e3, upd_ne hb]; exact e1
  refine ⟨fun b u e => ?_, g, s.nd, fun a ha => ?_, fun a m hm => ?_, ft_upd s.ft ho⟩
  · by_cases hb : b = p
    · subst hb; rw [upd_same] at e ⊢; exact e
    · rw [upd_ne hb] at e ⊢; exact s.fr b u e
  · rw [upd_ne (show a ≠ p from fun z => hc (by rw [← z]; exact ha))]; exact s.ap a ha
  · obtain ⟨u, hu, q⟩ := s.ow a m hm
    exact ⟨u, by rw [upd_ne (ne_of_none hu h)]; exact hu, q.mono g⟩
theorem Sta.turn {F G0 : Hp} {cs : Cs} {p : Addr} {o o' : HO} (s : Sta K (upd F p o) G0 cs H) (hF : F p = none) (ho : ∀ xs, o' ≠ .tup xs := by intro _ z; cases z) : Sta K (upd F p o') G0 cs (upd H p o') ∧ pur (upd F p o') cs (upd H p o') = pur (upd F p o) cs H := by
  have e : pur (upd F p o') cs (upd H p o') = pur (upd F p o) cs H := by
    funext b
    unfold pur
    by_cases hb : b = p
    · subst hb
      rw [if_pos (.inl (by rw [upd_same]; rfl)), if_pos (.inl (by rw [upd_same]; rfl))]
    · rw [upd_ne hb, upd_ne hb, upd_ne hb]
  refine ⟨⟨fun b u h => ?_, by rw [e]; exact s.gr, s.nd, fun a ha => ?_, fun a m hm => ?_, ft_upd (ft_back s.ft hF) ho⟩, e⟩
  · by_cases hb : b = p
    · subst hb; rw [upd_same] at h ⊢; exact h
    · rw [upd_ne hb] at h ⊢
      exact s.fr b u (by rw [upd_ne hb]; exact h)
  · have := s.ap a ha
    by_cases hb : a = p
    · subst hb; rw [upd_same] at this; cases this
    · rw [upd_ne hb] at this ⊢; exact this
  · obtain ⟨u, hu, q⟩ := s.ow a m hm
    have ha := s.ap a (List.mem_map.mpr ⟨(a, m), hm, rfl⟩)
    have hb : a ≠ p := fun z => by subst z; rw [upd_same] at ha; cases ha
    exact ⟨u, by rw [upd_ne hb]; exact hu, by rw [e]; exact q⟩
/-- .. and is data again -/
theorem Sta.back {F G0 : Hp} {cs : Cs} {p : Addr} {o : HO} (s : Sta K (upd F p o) G0 cs H) (hF : F p = none) : Sta K F G0 cs H ∧ Ex (pur (upd F p o) cs H) (pur F cs H) ∧ pur F cs H p = some o := by
  have hc : p ∉ adr cs := fun z => by
    have := s.ap p z
    rw [upd_same] at this; cases this
  have g : Ex (pur (upd F p o) cs H) (pur F cs H) := fun b u e => by
    obtain ⟨e1, e2, e3⟩ := pur_of e
    by_cases hb : b = p
    · subst hb; rw [upd_same] at e2; cases e2
    · rw [upd_ne hb] at e2
      rw [pur_at e2 e3]; exact e1
  refine ⟨⟨fun b u e => ?_, s.gr.trans g, s.nd, fun a ha => ?_, fun a m hm => ?_, ft_back s.ft hF⟩, g, ?_⟩
  · refine s.fr b u ?_
    rw [upd_ne (fun z => by rw [z, hF] at e; cases e)]; exact e
  · have := s.ap a ha
    by_cases hb : a = p
    · exact absurd (hb ▸ ha) hc
    · rw [upd_ne hb] at this; exact this
  · obtain ⟨u, hu, q⟩ := s.ow a m hm
    exact ⟨u, hu, q.mono g⟩
  · rw [pur_at hF hc]
    exact s.fr p o upd_same
/-- how a target of a comprehension binds: its slots alone -/
def GOk (K : PySem.W.Frag) (g : TG) (gd : WG) (vs : List Nat) : Prop := ∀ F cs H σ ρ v d k (Q : L2.St → Hp → Prop), Sta K F (pur F cs H) cs H → RepE K (pur F cs H) σ ρ → Rep K (pur F cs H) v d → L2.wipe σ vs = σ → gd d ρ k →
  (∀ σ' ρ', L2.wipe σ' vs = σ → RepE K (pur F cs H) σ' ρ' → k ρ' → Q σ' H) → g v σ H Q
theorem gok_name {i : Nat} {vs : List Nat} (h : i ∈ vs) : GOk K (gName i) (gN i) vs := fun F cs H σ ρ v d k Q s re r hw hk q => by
  refine q _ _ ?_ (re.set r i) hk
  rw [wipe_set h, hw]
theorem gok_two {i j : Nat} {vs : List Nat} (hi : i ∈ vs) (hj : j ∈ vs) : GOk K (gTup K 2 (gCons (gName i) (gCons (gName j) gNil))) (gT 2 (gCn (gN i) (gCn (gN j) gNl))) vs := fun F cs H σ ρ v d k Q s re r hw hk q => by
  cases d <;> try exact hk.elim
  rename_i ds
  obtain ⟨hl, hk⟩ := hk
  cases r with
  | tup h r =>
    obtain ⟨d1, d2, rfl⟩ : ∃ d1 d2, ds = [d1, d2] := by
      cases ds with
      | nil => cases hl
      | cons d1 ds => cases ds with
        | nil => cases hl
        | cons d2 ds => cases ds with
          | nil => exact ⟨d1, d2, rfl⟩
          | cons _ _ => simp at hl
    cases r with
    | cons r1 r =>
      cases r with
      | cons r2 r =>
        cases r
        exact ⟨_, _, rfl, ex_t pur_le h, rfl, _, _, rfl, _, _, rfl, rfl, q _ _ (by rw [wipe_set hj, wipe_set hi, hw]) ((re.set r1 i).set r2 j) hk⟩
theorem lc_ok {wi : WI} {g : TG} {gd : WG} {wt : WT} {we : DL.WE} {vs : List Nat} (gk : GOk K g gd vs) {Q : VK} : lE K W (wComp wi gd wt we vs) σ H Q → tLc (lI K W wi) g (lT K W0 wt) (lE K W0 we) vs σ H Q := by
  rintro ⟨F, cs, ρ, P, Z, s, re, hw, pe, px⟩
  refine ⟨F, cs, ρ, _, Z, s, re, hw, fun H1 cs1 J xs s1 yi h1 => ?_, px⟩
  intro D hD
  obtain ⟨hlen, h1⟩ := h1
  have hFD : F D = none := s1.fr.back hD
  have reW : RepE K (pur F cs1 H1) (L2.wipe σ vs) (wipeD ρ vs) := (re.mono s1.gr).wipe vs
  refine ⟨fun i m H' => i ≤ xs.length ∧ m = xs.length - i ∧ ∃ cs' acc vacc, Sta K (upd F D (.lst vacc)) (pur F cs1 H1) cs' H' ∧ RepL K (pur (upd F D (.lst vacc)) cs' H') vacc acc ∧ acc.length ≤ i ∧ compW gd wt we (xs.drop i) (wipeD ρ vs) cs' acc (fun ds cs2 => P (.lst ds) cs2),
    ⟨xs.length, Nat.zero_le _, rfl, cs1, [], [], s1.aside hD, .nil, Nat.le_refl _, h1⟩, ?_⟩
  rintro i m H2 ⟨hi, rfl, cs2, acc, vacc, s2, ra, hla, h2⟩
  cases e : xs.drop i with
  | nil =>
    have hl : xs.length ≤ i := by
      have z := congrArg List.length e
      rw [List.length_drop] at z
      have z' : xs.length - i = 0 := z
      omega
    have hie : i = xs.length := by omega
    rw [e] at h2
    obtain ⟨s3, g3, e3⟩ := s2.back hFD
    refine .inl ⟨by rw [hie]; exact yi.stop _ cs2 H2 s2, pe H2 cs2 _ _ (s3.from_ s1.gr) (.lst (SqL.of e3) (ra.mono g3)) h2⟩
  | cons d r =>
    obtain ⟨e1, e2⟩ := drop_cons e
    have hlt : i < xs.length := (List.getElem?_eq_some_iff.mp e1).1
    rw [e] at h2
    refine .inr ⟨yi.go i d e1 _ cs2 H2 s2, fun H' => ∃ cs' acc vacc, Sta K (upd F D (.lst vacc)) (pur F cs1 H1) cs' H' ∧ RepL K (pur (upd F D (.lst vacc)) cs' H') vacc acc ∧ acc.length ≤ i + 1 ∧ compW gd wt we r (wipeD ρ vs) cs' acc (fun ds cs2 => P (.lst ds) cs2), ?_, ?_⟩
    · rintro H' ⟨cs', acc', vacc', s', ra', hl', h'⟩
      exact ⟨xs.length - (i + 1), by omega, by omega, rfl, cs', acc', vacc', s', ra', hl', by rw [e2]; exact h'⟩
    · intro x H3 hy
      obtain ⟨s3, r3⟩ := yi.yld i d e1 _ cs2 H2 x H3 s2 hy
      refine gk _ cs2 H3 _ (wipeD ρ vs) x d _ _ s3.self (reW.mono (s2.gr.trans s3.gr)) r3 wipe_wipe h2 fun σ4 ρ4 hw4 re4 h4 => ⟨hw4.trans rfl, ?_⟩
      refine ⟨_, cs2, ρ4, _, Z0, s3.self, re4, h4, fun H5 cs5 k s5 h5 => ?_, fun _ _ _ _ _ _ z => z⟩
      cases k with
      | false => exact iteF ⟨cs5, acc, vacc, s5.from_ (s2.gr.trans s3.gr), ra.mono (s3.gr.trans s5.gr), Nat.le_succ_of_le hla, h5.2 rfl⟩
      | true =>
        refine iteT ⟨_, cs5, ρ4, _, Z0, s5.self, re4.mono s5.gr, h5.1 rfl, fun H6 cs6 y dy s6 r6 h6 => ?_, fun _ _ _ _ _ _ z => z⟩
        have g6 := (s2.gr.trans s3.gr).trans (s5.gr.trans s6.gr)
        have s7 := (s6.from_ ((s2.gr.trans s3.gr).trans s5.gr))
        obtain ⟨s8, e8⟩ := s7.turn (o' := .lst (vacc ++ [y])) hFD
        refine ⟨vacc, s6.fr D _ upd_same, ?_, cs6, acc ++ [dy], vacc ++ [y], s8, ?_, by rw [List.length_append]; exact Nat.succ_le_succ hla, h6⟩
        · rw [ra.length]; exact Nat.lt_of_le_of_lt (Nat.le_trans hla hi) (Nat.lt_of_le_of_lt hlen (by decide))
        · rw [e8]
          exact (ra.mono (s3.gr.trans (s5.gr.trans s6.gr))).append (.cons r6 .nil)
variable {elt tg iter : Expr} {ifs : List Expr} {scope : Scope} {own : List (Str × Nat)} {pos : Pos} {wi : WI} {g : TG} {gd : WG} {wt : WT} {we : DL.WE}
theorem d_lc (hc : X.calm = true) (hN : X.N.Nodup) (hi : DI X W tg iter wi) (ok : BlkOk X.N X.env.scope scope own) (gk : GOk X.K g gd (own.map (·.2)))
    (hg : ∀ (s : Shared) (H : Hp) (C : Addr) (cl : List (Str × Addr)) (fp : List Addr), PG (X.blk s H scope (compEnvC scope cl C X.env) fp) tg g)
    (ht : ∀ (s : Shared) (H : Hp) (C : Addr) (cl : List (Str × Addr)) (fp : List Addr), PTs (X.blk s H scope (compEnvC scope cl C X.env) fp) ifs (lT X.K W0 wt))
    (he : ∀ (s : Shared) (H : Hp) (C : Addr) (cl : List (Str × Addr)) (fp : List Addr), DE (X.blk s H scope (compEnvC scope cl C X.env) fp) W0 elt we) (hs : ∀ x, foldedSetIterable iter X.env x = pure x := by intro _; rfl) :
    DE X W (.ListComp elt [⟨tg, iter, ifs, 0⟩] scope pos) (wComp wi gd wt we (own.map (·.2))) := PE.imp (pe_lc hc hN hi ok hg ht he hs) fun _ _ _ h => lc_ok gk h
theorem ds_setLc {i : Nat} {y : Str} {py spos : Pos} (hc : X.calm = true) (hN : X.N.Nodup) (hy : X.N[i]? = some y) (hyl : X.env.scope.names.lookup y = some .local)
    (hsw : swapsWith (.ListComp elt [⟨tg, iter, ifs, 0⟩] scope pos) (some (.Name y py)) spos.line X.env = pure true) (hi : DI X W tg iter wi) (ok : BlkOk X.N X.env.scope scope own) (gk : GOk X.K g gd (own.map (·.2)))
    (hg : ∀ (s : Shared) (H : Hp) (C : Addr) (cl : List (Str × Addr)) (fp : List Addr), PG (X.blk s H scope (compEnvC scope cl C X.env) fp) tg g)
    (ht : ∀ (s : Shared) (H : Hp) (C : Addr) (cl : List (Str × Addr)) (fp : List Addr), PTs (X.blk s H scope (compEnvC scope cl C X.env) fp) ifs (lT X.K W0 wt))
    (he : ∀ (s : Shared) (H : Hp) (C : Addr) (cl : List (Str × Addr)) (fp : List Addr), DE (X.blk s H scope (compEnvC scope cl C X.env) fp) W0 elt we) (hs : ∀ x, foldedSetIterable iter X.env x = pure x := by intro _; rfl) :
    DS X W (.Assign [.Name y py] (.ListComp elt [⟨tg, iter, ifs, 0⟩] scope pos) spos) (sAsg (wComp wi gd wt we (own.map (·.2))) (gN i)) :=
  PS.imp (ps_setLc hc hN hy hyl hsw hi ok hg ht he hs) fun E σ H h => by
    obtain ⟨F, cs, ρ, f, s, re, hw, pe⟩ := h
    have h2 : lE X.K W (wComp wi gd wt we (own.map (·.2))) σ H (fun x H1 => gName i x σ H1 E.nx) := ⟨F, cs, ρ, _, _, s, re, hw, fun H1 cs1 v d s1 r1 h1 => pe.nx H1 cs1 _ _ s1 ((re.mono s1.gr).set r1 i) h1, pe.px re⟩
    exact lc_ok gk h2
end
section
variable {ρ : DL.Env} {cs : Cs} {P : DP} {Z : XZ} {wa wb we : DL.WE} {w : WA} {wt : WT}
theorem r_isi {d : D} {n : String} {k : Bool} (e : isiD d n = some k) (h : P (.bl k) cs) : oIsi [d, .opq (.ty n)] cs P := by
  unfold oIsi; simp only [e]; exact h
theorem r_isiT {d : D} {n : String} (e : isiD d n = some true) (h : P (.bl true) cs) : oIsi [d, .opq (.ty n)] cs P := r_isi e h
theorem r_isiF {d : D} {n : String} (e : isiD d n = some false) (h : P (.bl false) cs) : oIsi [d, .opq (.ty n)] cs P := r_isi e h
theorem r_isiTT {d : D} {ts : List D} {t : String} {ns : List String} (e : tyS d = some t) (e2 : tyNames ts = some ns) (e3 : (ns.any fun n => isT t n) = true) (h : P (.bl true) cs) : oIsiT [d, .tup ts] cs P := by
  unfold oIsiT; simp only [e, e2, e3]; exact h
theorem r_isiTF {d : D} {ts : List D} {t : String} {ns : List String} (e : tyS d = some t) (e2 : tyNames ts = some ns) (e3 : (ns.any fun n => isT t n) = false) (h : P (.bl false) cs) : oIsiT [d, .tup ts] cs P := by
  unfold oIsiT; simp only [e, e2, e3]; exact h
theorem r_all {xs : List D} {ns : List Bool} (e : blsOf xs = some ns) (h : P (.bl (ns.all id)) cs) : oAll [.lst xs] cs P := by
  unfold oAll; simp only [e]; exact h
theorem r_tupleL {xs : List D} (h : P (.tup xs) cs) : oTuple [.lst xs] cs P := h
theorem r_tupleT {xs : List D} (h : P (.tup xs) cs) : oTuple [.tup xs] cs P := h
theorem r_catT {xs ys : List D} (hl : xs.length + ys.length ≤ 100000) (h : P (.tup (xs ++ ys)) cs) : oCatT (.tup xs) (.tup ys) cs P := ⟨hl, h⟩
theorem r_sl {o : D → Option Int → Option Int → Cs → DP → Prop} {wl wh : WO} (h : we ρ cs (fun x cs1 => wl ρ cs1 (fun l cs2 => wh ρ cs2 (fun u cs3 => o x l u cs3 P) Z) Z) Z) : wSl o we wl wh ρ cs P Z := h
theorem r_noPart {R : Option Int → Cs → Prop} (h : R none cs) : wNoPart ρ cs R Z := h
theorem r_part {R : Option Int → Cs → Prop} (h : we ρ cs (fun x cs1 => match x with | .int i => R (some i) cs1 | _ => False) Z) : wPart we ρ cs R Z := h
theorem r_slL {xs : List D} {lo hi : Option Int} (h : P (.lst (DL.cutD xs lo hi)) cs) : oSlL (.lst xs) lo hi cs P := h
theorem r_slT {xs : List D} {lo hi : Option Int} (h : P (.tup (DL.cutD xs lo hi)) cs) : oSlT (.tup xs) lo hi cs P := h
theorem r_zipL {xs ys : List D} {R : List D → Cs → Prop} (h : w ρ cs (fun ds cs1 => match ds with | [.lst xs, .lst ys] => R (List.zipWith (fun d e => D.tup [d, e]) xs ys) cs1 | [.tup xs, .tup ys] => R (List.zipWith (fun d e => D.tup [d, e]) xs ys) cs1 | _ => False) Z) : iZp w ρ cs R Z := h
theorem r_yes {R : Bool → Cs → Prop} (h : R true cs) : wYes ρ cs R Z := h
theorem r_comp {wi : WI} {g : WG} {vs : List Nat} (h : wi ρ cs (fun xs cs1 => xs.length ≤ 100000 ∧ compW g wt we xs (wipeD ρ vs) cs1 [] (fun ds cs2 => P (.lst ds) cs2)) Z) : wComp wi g wt we vs ρ cs P Z := h
/-- .. by an invariant: the place, what is made so far, the things that change -/
theorem r_compI {g : WG} {R : List D → Cs → Prop} (I : Nat → List D → Cs → Prop) : ∀ (xs acc : List D) (k : Nat) {cs : Cs}, I k acc cs →
    (∀ i d acc cs (N : List D → Cs → Prop), xs[i]? = some d → I (k + i) acc cs → (∀ acc' cs', I (k + i + 1) acc' cs' → N acc' cs') → g d ρ fun ρ1 => wt ρ1 cs (fun b cs1 => (b = true → we ρ1 cs1 (fun y cs2 => N (acc ++ [y]) cs2) Z0) ∧ (b = false → N acc cs1)) Z0) →
    (∀ acc cs, I (k + xs.length) acc cs → R acc cs) → compW g wt we xs ρ cs acc R
  | [], acc, k, cs, h0, hs, hd => hd acc cs h0
  | d :: r, acc, k, cs, h0, hs, hd => by
    refine hs 0 d acc cs (fun acc' cs' => compW g wt we r ρ cs' acc' R) rfl h0 fun acc' cs' h1 => r_compI I r acc' (k + 1) h1 (fun i d acc cs N e hi hn => ?_) (fun acc cs h => ?_)
    · have e1 : k + (i + 1) = k + 1 + i := by omega
      refine hs (i + 1) d acc cs N e (by rw [e1]; exact hi) fun acc' cs' hh => hn acc' cs' (by rw [← e1]; exact hh)
    · refine hd acc cs ?_
      have e1 : k + (d :: r).length = k + 1 + r.length := by rw [List.length_cons]; omega
      rw [e1]; exact h
theorem r_comp0 {g : WG} {R : List D → Cs → Prop} (I : Nat → List D → Cs → Prop) {xs : List D} (h0 : I 0 [] cs)
    (hs : ∀ i d acc cs (N : List D → Cs → Prop), xs[i]? = some d → I i acc cs → (∀ acc' cs', I (i + 1) acc' cs' → N acc' cs') → g d ρ fun ρ1 => wt ρ1 cs (fun b cs1 => (b = true → we ρ1 cs1 (fun y cs2 => N (acc ++ [y]) cs2) Z0) ∧ (b = false → N acc cs1)) Z0)
    (hd : ∀ acc cs, I xs.length acc cs → R acc cs) : compW g wt we xs ρ cs [] R :=
  r_compI I xs [] 0 h0 (fun i d acc cs N e hi hn => hs i d acc cs N e (by rw [Nat.zero_add] at hi; exact hi) (by rw [Nat.zero_add] at hn; exact hn)) (fun acc cs h => hd acc cs (by rw [Nat.zero_add] at h; exact h))
theorem take_more {α : Type} {l : List α} {i : Nat} {x : α} (h : l[i]? = some x) : l.take (i + 1) = l.take i ++ [x] := by
  obtain ⟨h1, h2⟩ := List.getElem?_eq_some_iff.mp h
  rw [List.take_succ, h]
  rfl
end
end DL
namespace DL
open PySem PySem.Spec PyProof.Rows L2
/-- what the bag holds: the script's copy, how many were taken, what is left of one, a number that goes round, a count -/
def BagOk (m : MO) : Prop := ∃ (cells : List Int) (k : Nat) (rest seed cnt : Int), m = .lst [.lst (cells.map D.int), .int (k : Int), .int rest, .int seed, .int cnt] ∧ 0 ≤ rest ∧ 0 ≤ seed ∧ seed < 2147483629
def BagIn (p : Addr) (cs : Cs) : Prop := ∃ b, look p cs = some b ∧ BagOk b
theorem BagIn.put {p : Addr} {cs : Cs} {b : MO} (h : BagIn p cs) (hb : BagOk b) : BagIn p (put p b cs) := by
  obtain ⟨b0, e, _⟩ := h
  exact ⟨b, look_put e, hb⟩
structure BagStep (p : Addr) (cs cs' : Cs) : Prop where
  bag : BagIn p cs'
  eq : ∃ b, cs' = put p b cs
theorem BagStep.trans {p : Addr} {c0 c1 c2 : Cs} (a : BagStep p c0 c1) (b : BagStep p c1 c2) : BagStep p c0 c2 := by
  obtain ⟨b1, e1⟩ := a.eq
  obtain ⟨b2, e2⟩ := b.eq
  exact ⟨b.bag, b2, by rw [e2, e1, put_put]⟩
theorem BagStep.refl {p : Addr} {cs : Cs} (h : BagIn p cs) : BagStep p cs cs := by
  obtain ⟨b, e, _⟩ := id h
  exact ⟨h, b, (put_look e).symm⟩
theorem BagStep.look {p q : Addr} {cs cs' : Cs} (a : BagStep p cs cs') (h : q ≠ p) : look q cs' = look q cs := by
  obtain ⟨b, e⟩ := a.eq
  rw [e, look_put_ne h]
mutual
/-- known data: nothing opaque, no dict with tuple keys -/
def knD : D → Bool
  | .tup xs => knL xs
  | .lst xs => knL xs
  | .opq _ => false
  | .dct _ => false
  | .ins _ _ => false
  | .xcp _ _ _ _ => false
  | _ => true
def knL : List D → Bool
  | [] => true
  | d :: ds => knD d && knL ds
end
def wholeD : D → Bool
  | .int _ => true
  | _ => false
def dB (l t w h : Rat) : D := .tup [dR l, dR t, dR w, dR h]
theorem Sz.ofInt {n : Int} {k : Nat} (h : n.natAbs < 2 ^ k) (hk : 1 < 2 ^ k) : Sz k (n : Rat) := ⟨h, hk⟩
theorem ofInt_pos {n : Int} (h : 0 < n) : (0 : Rat) < (n : Rat) := Rat.intCast_pos.mpr h
def isNonD : D → Bool
  | .non => true
  | .opq v => decide (v = .non)
  | _ => false
def oIsN : DO2 := fun x y cs P => match y with
  | .non => P (.bl (isNonD x)) cs
  | _ => False
def oNotN : DO2 := fun x y cs P => match y with
  | .non => P (.bl (!isNonD x)) cs
  | _ => False
section
variable {cs : Cs} {P : DP} {d : D}
theorem r_isN (h : P (.bl (isNonD d)) cs) : oIsN d .non cs P := h
theorem r_notN (h : P (.bl (!isNonD d)) cs) : oNotN d .non cs P := h
theorem r_eqBs {k : Bool} (h : P (.bl true) cs) : oEq (.bl k) (.bl k) cs P := r_eqB (by rw [beq_self_eq_true]; exact h)
theorem r_neBs {k : Bool} (h : P (.bl false) cs) : oNe (.bl k) (.bl k) cs P := r_neB (by rw [beq_self_eq_true]; exact h)
end
def oIsB : DO2 := fun x y cs P => match x, y with
  | .bl a, .bl b => P (.bl (decide (a = b))) cs
  | _, _ => False
def oNotB : DO2 := fun x y cs P => match x, y with
  | .bl a, .bl b => P (.bl (!decide (a = b))) cs
  | _, _ => False
section
variable {cs : Cs} {P : DP} {k l : Bool}
theorem r_isBs (h : P (.bl true) cs) : oIsB (.bl k) (.bl k) cs P := by
  show P (.bl (decide (k = k))) cs
  rw [decide_eq_true rfl]; exact h
theorem r_notBs (h : P (.bl false) cs) : oNotB (.bl k) (.bl k) cs P := by
  show P (.bl (!decide (k = k))) cs
  rw [decide_eq_true rfl]; exact h
theorem r_isB (h : P (.bl (decide (k = l))) cs) : oIsB (.bl k) (.bl l) cs P := h
theorem r_notB (h : P (.bl (!decide (k = l))) cs) : oNotB (.bl k) (.bl l) cs P := h
end
theorem atD_mem {xs : List D} {r : Int} (h0 : 0 ≤ r) (h1 : r < xs.length) : ∃ x, x ∈ xs ∧ atD xs r = some x := by
  obtain ⟨n, rfl⟩ := Int.eq_ofNat_of_zero_le h0
  have hr : n < xs.length := by omega
  exact ⟨xs[n], List.getElem_mem _, atI_nat (List.getElem?_eq_getElem hr)⟩
mutual
theorem eqD_refl : ∀ (d : D) (n : Nat), plD n d = true → eqD d d = true
  | .non, _, _ => rfl
  | .bl b, _, _ => by simp [eqD]
  | .int i, _, _ => by simp [eqD]
  | .str x, _, _ => by simp [eqD]
  | .tup xs, 0, h => by simp [plD] at h
  | .lst xs, 0, h => by simp [plD] at h
  | .tup xs, n + 1, h => by simp only [eqD]; exact eqL_refl xs n (plD_t h)
  | .lst xs, n + 1, h => by simp only [eqD]; exact eqL_refl xs n (plD_l h)
  | .dic _, n, h => by cases n <;> simp [plD] at h
  | .dct _, n, h => by cases n <;> simp [plD] at h
  | .ins _ _, n, h => by cases n <;> simp [plD] at h
  | .xcp _ _ _ _, n, h => by cases n <;> simp [plD] at h
  | .opq _, n, h => by cases n <;> simp [plD] at h
theorem eqL_refl : ∀ (d : List D) (n : Nat), plL n d = true → eqL d d = true
  | [], _, _ => rfl
  | d :: ds, n, h => by
    simp only [plL, Bool.and_eq_true] at h
    simp only [eqL, Bool.and_eq_true]
    exact ⟨eqD_refl d n h.1, eqL_refl ds n h.2⟩
end
theorem plL_mem : ∀ {ds : List D} {d : D} {n : Nat}, plL n ds = true → d ∈ ds → plD n d = true
  | [], d, _, _, h => by cases h
  | e :: ds, d, n, hk, h => by
    simp only [plL, Bool.and_eq_true] at hk
    rcases List.mem_cons.mp h with z | z
    · rw [z]; exact hk.1
    · exact plL_mem hk.2 z
theorem plL_of : ∀ {ds : List D} {n : Nat}, (∀ d ∈ ds, plD n d = true) → plL n ds = true
  | [], _, _ => rfl
  | d :: ds, n, h => by
    simp only [plL, Bool.and_eq_true]
    exact ⟨h d (List.mem_cons_self ..), plL_of fun e he => h e (List.mem_cons_of_mem _ he)⟩
theorem r_eqSelf {cs : Cs} {P : DP} {d : D} (hd : plD 20 d = true) (h : P (.bl true) cs) : oEq d d cs P := ⟨hd, hd, by rw [eqD_refl d 20 hd]; exact h⟩
end DL
namespace DL
open PySem PySem.Spec PyProof.Rows L2
def del (p : Addr) : Cs → Cs
  | [] => []
  | (a, x) :: r => if a = p then r else (a, x) :: del p r
theorem mem_del {p a : Addr} {x : MO} : ∀ {cs : Cs}, (a, x) ∈ del p cs → (a, x) ∈ cs
  | [], h => h
  | (b, y) :: r, h => by
    unfold del at h
    split at h
    · exact List.mem_cons_of_mem _ h
    · rcases List.mem_cons.mp h with e | e
      · rw [e]; exact List.mem_cons_self ..
      · exact List.mem_cons_of_mem _ (mem_del e)
theorem adr_del {p a : Addr} {cs : Cs} (h : a ∈ adr (del p cs)) : a ∈ adr cs := by
  obtain ⟨⟨b, x⟩, hm, e⟩ := List.mem_map.mp h
  exact List.mem_map.mpr ⟨(b, x), mem_del hm, e⟩
theorem nd_del {p : Addr} : ∀ {cs : Cs}, (adr cs).Nodup → (adr (del p cs)).Nodup ∧ p ∉ adr (del p cs)
  | [], h => ⟨h, fun z => by cases z⟩
  | (a, x) :: r, h => by
    obtain ⟨n1, n2⟩ := List.nodup_cons.mp (show (a :: adr r).Nodup from h)
    obtain ⟨i1, i2⟩ := nd_del (p := p) n2
    unfold del
    split
    · rename_i e
      rw [← e]
      exact ⟨n2, n1⟩
    · rename_i e
      refine ⟨List.nodup_cons.mpr ⟨fun z => n1 (adr_del z), i1⟩, fun z => ?_⟩
      rcases List.mem_cons.mp (show p ∈ a :: adr (del p r) from z) with z | z
      · exact e z.symm
      · exact i2 z
theorem Sta.frz {K : PySem.W.Frag} {F G0 H : Hp} {cs : Cs} {p : Addr} {m : MO} (s : Sta K F G0 cs H) (hl : DL.look p cs = some m) : Sta K F G0 (del p cs) H ∧ Ex (pur F cs H) (pur F (del p cs) H) ∧ ∃ o, pur F (del p cs) H p = some o ∧ MoOk K (pur F (del p cs) H) m o := by
  have g : Ex (pur F cs H) (pur F (del p cs) H) := fun b u e => by
    obtain ⟨e1, e2, e3⟩ := pur_of e
    rw [pur_at e2 fun z => e3 (adr_del z)]; exact e1
  obtain ⟨n1, n2⟩ := nd_del (p := p) s.nd
  have hp : p ∈ adr cs := List.mem_map.mpr ⟨(p, m), look_mem hl, rfl⟩
  refine ⟨⟨s.fr, s.gr.trans g, n1, fun a h => s.ap a (adr_del h), fun a m' h => ?_, s.ft⟩, g, ?_⟩
  · obtain ⟨u, hu, r⟩ := s.ow a m' (mem_del h)
    exact ⟨u, hu, r.mono g⟩
  · obtain ⟨u, hu, r⟩ := s.ow p m (look_mem hl)
    exact ⟨u, by rw [pur_at (s.ap p hp) n2]; exact hu, r.mono g⟩
section
variable {X : Cx} {W : WX} {K : PySem.W.Frag} {σ : L2.St} {H : Hp} {pos : Pos} {a b c e : Expr} {es : List Expr} {wa wb wc we : DL.WE} {w wk : WA}
def wFrz (we : DL.WE) : DL.WE := fun ρ cs P Z => we ρ cs (fun d cs1 => ∃ p xs, d = .opq (.ref p) ∧ look p cs1 = some (.lst xs) ∧ P (.lst xs) (del p cs1)) Z
theorem d_frz (h : DE X W e we) : DE X W e (wFrz we) := PE.imp h fun σ H Q h => by
  obtain ⟨F, cs, ρ, P, Z, s, re, hw, pe, px⟩ := h
  refine ⟨F, cs, ρ, _, Z, s, re, hw, fun H1 cs1 v d s1 r1 h1 => ?_, px⟩
  obtain ⟨p, xs, rfl, hl, h1⟩ := h1
  cases r1
  obtain ⟨s2, g2, o, ho, m⟩ := s1.frz hl
  cases o <;> try exact m.elim
  exact pe H1 _ _ _ s2 (.lst (SqL.of ho) m) h1
mutual
inductive Lend (cs : Cs) : D → D → Prop
  | same (d : D) : Lend cs d d
  | at_ {p : Addr} {xs ys : List D} : look p cs = some (.lst xs) → LendL cs xs ys → Lend cs (.opq (.ref p)) (.lst ys)
  | tup {xs ys : List D} : LendL cs xs ys → Lend cs (.tup xs) (.tup ys)
  | lst {xs ys : List D} : LendL cs xs ys → Lend cs (.lst xs) (.lst ys)
inductive LendL (cs : Cs) : List D → List D → Prop
  | nil : LendL cs [] []
  | cons {x y : D} {xs ys : List D} : Lend cs x y → LendL cs xs ys → LendL cs (x :: xs) (y :: ys)
end
theorem LendL.self (cs : Cs) : ∀ xs, LendL cs xs xs
  | [] => .nil
  | x :: xs => .cons (.same x) (LendL.self cs xs)
inductive LendE (cs : Cs) : DL.Env → DL.Env → Prop
  | nil : LendE cs [] []
  | none {ρ ρ' : DL.Env} {x : Option D} : LendE cs ρ ρ' → LendE cs (x :: ρ) (none :: ρ')
  | some {ρ ρ' : DL.Env} {d d' : D} : Lend cs d d' → LendE cs ρ ρ' → LendE cs (some d :: ρ) (some d' :: ρ')
def flatD : D → Bool
  | .non => true
  | .bl _ => true
  | .int _ => true
  | .str _ => true
  | _ => false
section
variable {F G0 : Hp} {cs : Cs}
theorem pur_nil (s : Sta K F G0 cs H) : Ex (pur F cs H) (pur F [] H) := fun b u e => by
  obtain ⟨e1, e2, e3⟩ := pur_of e
  rw [pur_at e2 (fun z => by cases z)]; exact e1
mutual
theorem Lend.rep (s : Sta K F G0 cs H) : ∀ {d d' : D} {v : V}, Lend cs d d' → Rep K (pur F cs H) v d → Rep K (pur F [] H) v d'
  | _, _, v, .same d, r => r.mono (pur_nil s)
  | _, _, v, .at_ (p := p) hl l, r => by
    cases r
    obtain ⟨o, e, m⟩ := s.look hl
    have hp : p ∈ adr cs := List.mem_map.mpr ⟨(p, _), look_mem hl, rfl⟩
    cases o <;> try exact m.elim
    exact .lst (SqL.of (by rw [pur_at (s.ap p hp) (fun z => by cases z)]; exact e)) (LendL.rep s l m)
  | _, _, v, .tup l, r => by
    cases r with
    | tup h r => exact .tup (ex_t (pur_nil s) h) (LendL.rep s l r)
  | _, _, v, .lst l, r => by
    cases r with
    | lst h r => exact .lst (ex_l (pur_nil s) h) (LendL.rep s l r)
theorem LendL.rep (s : Sta K F G0 cs H) : ∀ {d d' : List D} {v : List V}, LendL cs d d' → RepL K (pur F cs H) v d → RepL K (pur F [] H) v d'
  | _, _, _, .nil, r => by cases r; exact .nil
  | _, _, _, .cons l ls, r => by
    cases r with
    | cons r rs => exact .cons (Lend.rep s l r) (LendL.rep s ls rs)
end
end
theorem LendE.rep {F G0 : Hp} {cs : Cs} (s : Sta K F G0 cs H) : ∀ {ρ ρ' : DL.Env} {σ : L2.St}, LendE cs ρ ρ' → RepE K (pur F cs H) σ ρ → RepE K (pur F [] H) σ ρ'
  | _, _, _, .nil, r => by cases r; exact .nil
  | _, _, _, .none l, r => by
    cases r with
    | cons q r => exact .cons .skip (LendE.rep s l r)
  | _, _, _, .some h l, r => by
    cases r with
    | cons q r =>
      cases q with
      | held q => exact .cons (.held (Lend.rep s h q)) (LendE.rep s l r)
variable {x : Str} {p : Pos}
theorem d_gint {i : Int} (hg : Gl X x) (h : ∃ t, X.mg x = some (.int i t)) (hd : (x == ("__debug__" : Str)) = false := by decide) : DE X W (.Name x pos) (wC (.int i)) := by
  obtain ⟨t, h⟩ := h
  exact d_of (pe_glob (v := .int i) hg h ⟨_, rfl⟩ hd) fun _ => .int _
def wChain (o o' : DO2) (wa wb wc : DL.WE) : DL.WE := fun ρ cs P Z => wa ρ cs (fun x cs1 => wb ρ cs1 (fun y cs2 => o x y cs2 fun z cs3 => match z with
  | .bl k => (k = true → wc ρ cs3 (fun u cs4 => o' y u cs4 P) Z) ∧ (k = false → P (.bl false) cs3)
  | _ => False) Z) Z
theorem chain_ok {r r' : R2} {o o' : DO2} (adq : Adq K r o) (adq' : Adq K r' o') {Q : VK} : lE K W (wChain o o' wa wb wc) σ H Q → tChain r r' (lE K W wa) (lE K W wb) (lE K W wc) σ H Q := by
  rintro ⟨F, cs, ρ, P, Z, s, re, hw, pe, px⟩
  refine ⟨F, cs, ρ, _, Z, s, re, hw, fun H1 cs1 v d s1 r1 h1 => ?_, px⟩
  refine ⟨F, cs1, ρ, _, Z, s1.self, re.mono s1.gr, h1, fun H2 cs2 v2 d2 s2 r2 h2 => ?_, px.le s1.gr⟩
  refine adq F cs2 H2 v v2 d d2 _ _ s2.self (r1.mono s2.gr) r2 h2 fun H3 cs3 v3 d3 s3 r3 h3 => ?_
  have g2 := s1.gr.trans s2.gr
  have g3 := g2.trans s3.gr
  cases d3 <;> try exact h3.elim
  rename_i k
  cases r3
  refine ⟨k, rfl, ?_⟩
  cases k with
  | true =>
    refine iteT ⟨F, cs3, ρ, _, Z, s3.self, re.mono g3, h3.1 rfl, fun H4 cs4 v4 d4 s4 r4 h4 => ?_, px.le g3⟩
    exact adq' F cs4 H4 v2 v4 d2 d4 P Q s4.self ((r2.mono s3.gr).mono s4.gr) r4 h4 (pe.le (g3.trans s4.gr))
  | false => exact iteF (pe H3 cs3 _ _ (s3.from_ g2) (.bl _) (h3.2 rfl))
theorem d_chain {op op' : CmpOp} {r r' : R2} {o o' : DO2} (ho : OpR X (compareOp op) r) (ho' : OpR X (compareOp op') r') (adq : Adq X.K r o) (adq' : Adq X.K r' o') (ha : DE X W a wa) (hb : DE X W b wb) (hc : DE X W c wc)
    (hm : lastMarks [op, op'] [b, c] = false) : DE X W (.Compare a [op, op'] [b, c] pos) (wChain o o' wa wb wc) := PE.imp (pe_chain ho ho' ha hb hc hm) fun _ _ _ h => chain_ok adq adq' h
theorem d_chain_le_le (ha : DE X W a wa) (hb : DE X W b wb) (hc : DE X W c wc) (hm : lastMarks [.LtE, .LtE] [b, c] = false := by with_unfolding_all rfl) : DE X W (.Compare a [.LtE, .LtE] [b, c] pos) (wChain oLe oLe wa wb wc) := d_chain op_le op_le (adq_I0 fun _ _ _ => .bl _) (adq_I0 fun _ _ _ => .bl _) ha hb hc hm
theorem RepL.strs {G : Hp} : ∀ {vs : List V} (ns : List Str), RepL K G vs (ns.map D.str) → vs = ns.map V.str
  | _, [], .nil => rfl
  | _, n :: ns, .cons h r => by
    cases h
    rw [List.map_cons, RepL.strs ns r]
def oIn : DO2 := fun x y cs P => (∃ (s : Str) (ss : List Str), x = .str s ∧ (y = .tup (ss.map D.str) ∨ y = .lst (ss.map D.str)) ∧ P (.bl (decide (s ∈ ss))) cs) ∨ (∃ (s : Int) (ss : List Int), x = .int s ∧ (y = .tup (ss.map D.int) ∨ y = .lst (ss.map D.int)) ∧ P (.bl (decide (s ∈ ss))) cs)
def oNotIn : DO2 := fun x y cs P => (∃ (s : Str) (ss : List Str), x = .str s ∧ (y = .tup (ss.map D.str) ∨ y = .lst (ss.map D.str)) ∧ P (.bl (!decide (s ∈ ss))) cs) ∨ (∃ (s : Int) (ss : List Int), x = .int s ∧ (y = .tup (ss.map D.int) ∨ y = .lst (ss.map D.int)) ∧ P (.bl (!decide (s ∈ ss))) cs)
theorem inV_str (s : Str) : ∀ ss : List Str, inV (.str s) (ss.map V.str) = decide (s ∈ ss)
  | [] => by simp [inV]
  | t :: ss => by
    have ih := inV_str s ss
    unfold inV at ih ⊢
    rw [List.map_cons, List.any_cons, ih]
    have e : eqV (.str t) (.str s) = decide (t = s) := by show (t == s) = _; rw [Bool.beq_eq_decide_eq]
    rw [e, ← Bool.decide_or]
    exact decide_eq_decide.mpr ⟨fun h => by rcases h with h | h <;> simp [h], fun h => by rcases List.mem_cons.mp h with h | h <;> simp [h]⟩
theorem inV_int (s : Int) : ∀ ss : List Int, inV (.int s) (ss.map V.int) = decide (s ∈ ss)
  | [] => by simp [inV]
  | t :: ss => by
    have ih := inV_int s ss
    unfold inV at ih ⊢
    rw [List.map_cons, List.any_cons, ih]
    have e : eqV (.int t) (.int s) = decide (t = s) := by show (t == s) = _; rw [Bool.beq_eq_decide_eq]
    rw [e, ← Bool.decide_or]
    exact decide_eq_decide.mpr ⟨fun h => by rcases h with h | h <;> simp [h], fun h => by rcases List.mem_cons.mp h with h | h <;> simp [h]⟩
theorem flat_strs : ∀ ss : List Str, (ss.map V.str).all flatV = true
  | [] => rfl
  | t :: ss => by rw [List.map_cons, List.all_cons, flat_strs ss]; rfl
theorem flat_ints : ∀ ss : List Int, (ss.map V.int).all flatV = true
  | [] => rfl
  | t :: ss => by rw [List.map_cons, List.all_cons, flat_ints ss]; rfl
theorem adq_in : Adq K (rIn K false) oIn := fun F cs H x y dx dy P Q s rx ry ho pe => by
  rcases ho with ⟨t, ss, rfl, h, q⟩ | ⟨t, ss, rfl, h, q⟩
  · cases rx
    rcases h with rfl | rfl
    · cases ry with
      | tup h r =>
        have e := r.strs ss
        subst e
        exact ⟨_, _, rfl, .inr (ex_t pur_le h), rfl, flat_strs ss, by rw [if_neg (by decide), inV_str]; exact pe H cs _ _ s (.bl _) q⟩
    · cases ry with
      | lst h r =>
        have e := r.strs ss
        subst e
        exact ⟨_, _, rfl, .inl (ex_l pur_le h), rfl, flat_strs ss, by rw [if_neg (by decide), inV_str]; exact pe H cs _ _ s (.bl _) q⟩
  · cases rx
    rcases h with rfl | rfl
    · cases ry with
      | tup h r =>
        have e := r.intsL ss
        subst e
        exact ⟨_, _, rfl, .inr (ex_t pur_le h), rfl, flat_ints ss, by rw [if_neg (by decide), inV_int]; exact pe H cs _ _ s (.bl _) q⟩
    · cases ry with
      | lst h r =>
        have e := r.intsL ss
        subst e
        exact ⟨_, _, rfl, .inl (ex_l pur_le h), rfl, flat_ints ss, by rw [if_neg (by decide), inV_int]; exact pe H cs _ _ s (.bl _) q⟩
theorem d_in (ha : DE X W a wa) (hb : DE X W b wb) (hm : behindInMarks .In b = false := by rfl) : DE X W (.Compare a [.In] [b] pos) (wOp oIn wa wb) := d_cmp op_in_seq adq_in ha hb hm
def sPar3 (i j l : Nat) (w : WA) : WS := fun f ρ cs => w ρ cs (fun ds cs1 => match ds with
  | [x, y, z] => f.nx (((ρ.set i (some x)).set j (some y)).set l (some z)) cs1
  | _ => False) (fun x cs1 => f.ex x ρ cs1)
theorem par3_inv {ds : List D} {g : D → D → D → Prop} (h : (match ds with | [x, y, z] => g x y z | _ => False)) : ∃ x y z, ds = [x, y, z] ∧ g x y z := by
  match ds, h with
  | [x, y, z], h => exact ⟨x, y, z, rfl, h⟩
theorem ds_par3 {i j l : Nat} {x y z : Str} {a b c : Expr} {w : WA} {px py pz pt : Pos} {kt k2 pt2} (hc : X.calm = true) (hN : X.N.Nodup) (hi : X.N[i]? = some x) (hj : X.N[j]? = some y) (hl : X.N[l]? = some z) (hij : i ≠ j) (hil : i ≠ l) (hjl : j ≠ l)
    (hx : X.env.scope.names.lookup x = some .local) (hy : X.env.scope.names.lookup y = some .local) (hz : X.env.scope.names.lookup z = some .local) (ha : DA X W [a, b, c] w)
    (hw : swappedStores [.Tuple [.Name x px, .Name y py, .Name z pz] kt pt] (.Tuple [a, b, c] k2 pt2) X.env = pure (some [x, y, z]) := by rfl)
    (hs : swapsWithSole [.Tuple [.Name x px, .Name y py, .Name z pz] kt pt] (.Tuple [a, b, c] k2 pt2) pos.line X.env = pure false := by rfl) :
    DS X W (.Assign [.Tuple [.Name x px, .Name y py, .Name z pz] kt pt] (.Tuple [a, b, c] k2 pt2) pos) (sPar3 i j l w) := PS.imp (ps_par3 hc hN hi hj hl hij hil hjl hx hy hz ha hw hs) fun E σ H h => by
  obtain ⟨F, cs, ρ, f, s, re, hw, pe⟩ := h
  refine ⟨F, cs, ρ, _, _, s, re, hw, fun H1 cs1 vs ds s1 r1 l1 h1 => ?_, pe.px re⟩
  obtain ⟨dx, dy, dz, rfl, h⟩ := par3_inv h1
  cases r1 with
  | cons r1 r2 =>
    cases r2 with
    | cons r2 r3 =>
      cases r3 with
      | cons r3 r4 =>
        cases r4
        exact ⟨_, _, _, rfl, pe.nx H1 cs1 _ _ s1 ((((re.mono s1.gr).set r1 i).set r2 j).set r3 l) h⟩
theorem PK.imp {X : Cx} {e : List Keyword} {t t' : TA} (h : PK X e t) (i : ∀ σ H Q, t' σ H Q → t σ H Q) : PK X e t' := ⟨fun pos pins s σ H Q I q => h.run pos pins s σ H Q I (i σ H Q q)⟩
def wCallK (sp : DSp) (w wk : WA) : DL.WE := fun ρ cs P Z => w ρ cs (fun ds cs1 => wk ρ cs1 (fun zs cs2 => sp (ds ++ zs) cs2 P Z) Z) Z
end
section
variable {X : Cx} {W : WX} {K : PySem.W.Frag} {e tg : Expr} {we : DL.WE}
def iAnyV (K : PySem.W.Frag) (tl : TE) : TI := fun σ H R => tl σ H fun x H1 => ∃ a, x = .ref a ∧ ((∃ xs, SqL K H1 a xs) ∧ R (Itl K a) H1 ∨ (∃ xs, SqT K H1 a xs) ∧ R (Itt K a) H1)
theorem pi_any {l : Expr} {tl : TE} (hl : PE X l tl) : PI X tg l (iAnyV X.K tl) := by
  refine ⟨fun pins s σ H R I h => ?_⟩
  refine thn (hl.run pins s σ H _ I h) fun v s1 ⟨x, H1, I1, r1, q1⟩ => ?_
  obtain ⟨a, e, q⟩ := q1
  subst e
  cases r1
  rcases q with ⟨⟨xs, hq⟩, q⟩ | ⟨⟨xs, hq⟩, q⟩
  · obtain ⟨its, rv, p, hz⟩ := I1.list hq
    refine wpAny_pyIter_list p.isList ?_
    refine ⟨s1.heap.objs.size, [s1.heap.objs.size], _, _, H1, rfl, I1.kept (t' := s1.toks) fun b o e => Heap.get?_push_of_some _ e, turn_list a _, ⟨_, Heap.get?_push_size _ rfl, rfl, rfl⟩, fun b hb => ?_, q⟩
    have e : b = s1.heap.objs.size := by simpa using hb
    subst e
    exact I1.fpOk (Nat.le_refl _) (I1.hok.fresh (Nat.le_refl _))
  · obtain ⟨its, rv, p, hz⟩ := I1.tuple hq
    refine wpAny_pyIter_tuple (show s1.heap.IsTuple a its.toArray from p) ?_
    refine ⟨s1.heap.objs.size, [s1.heap.objs.size], _, _, H1, rfl, I1.kept (t' := s1.toks) fun b o e => Heap.get?_push_of_some _ e, turn_tuple a _, ⟨_, Heap.get?_push_size _ rfl, rfl, rfl⟩, fun b hb => ?_, q⟩
    have e : b = s1.heap.objs.size := by simpa using hb
    subst e
    exact I1.fpOk (Nat.le_refl _) (I1.hok.fresh (Nat.le_refl _))
def iAnyD (we : DL.WE) : WI := fun ρ cs P Z => we ρ cs (fun d cs1 => match d with
  | .lst xs => P xs cs1
  | .tup xs => P xs cs1
  | _ => False) Z
theorem di_any (h : DE X W e we) : DI X W tg e (iAnyD we) := PI.imp (pi_any h) fun σ H R hq => by
  obtain ⟨F, cs, ρ, P, Z, s, re, hw, pe, px⟩ := hq
  refine ⟨F, cs, ρ, _, Z, s, re, hw, fun H1 cs1 v d s1 r1 h1 => ?_, px⟩
  cases d <;> try exact h1.elim
  · cases r1 with
    | tup h r => exact ⟨_, rfl, .inr ⟨⟨_, ex_t pur_le h⟩, pe H1 cs1 _ _ s1 (yi_tup h r) h1⟩⟩
  · cases r1 with
    | lst h r => exact ⟨_, rfl, .inl ⟨⟨_, ex_l pur_le h⟩, pe H1 cs1 _ _ s1 (yi_list h r) h1⟩⟩
theorem sum_tupG {prog : Program} {w : World} {A : Around} {E : Value → Shared → Prop} {s : Shared} {l : Addr} {xs : Array (Int × Tok)} {Q : Value → Shared → Prop} (hh : A.handled = none) (hT : s.heap.IsTuple l (intItems xs))
    (h : ∀ h' tk t', (∀ b o, s.heap.get? b = some o → h'.get? b = some o) → Q (.int (preSum (numAt xs) xs.size) t') { s with heap := h', toks := tk }) :
    wpAny (model prog w) A (call (.builtin "sum") [.ref l]) Q E s := by
  have hlt : l < s.heap.objs.size := by obtain ⟨_, e, _⟩ := hT; exact Heap.lt_size e
  refine call_sum_walkG (wpAny_pyIter_tuple hT ?_)
  refine ⟨_, [_, l], [_], _, _, _, numAt xs, rfl, Walks.tuple (A := A.in1) hh _ l (Nat.ne_of_lt hlt) (intItems xs), ⟨⟨_, Heap.get?_push_size _ rfl, rfl, rfl⟩, hT.push _⟩, fun c hc => ?_, (fun _ _ => intItems_at), fun h' tk t' hk => ?_⟩
  · show c < (s.heap.push _).objs.size
    rw [Heap.size_push]
    rcases List.mem_cons.mp hc with rfl | hc
    · exact Nat.lt_succ_self _
    · rw [List.mem_singleton.mp hc]; exact Nat.lt_succ_of_lt hlt
  · have := h h' tk t' (fun b o e => by
      refine hk b o (fun hm => ?_) (Heap.get?_push_of_some _ e)
      exact absurd ((List.mem_singleton.mp hm) ▸ Heap.lt_size e) (Nat.lt_irrefl _))
    simpa [intItems] using this
def rSumA (K : PySem.W.Frag) : List V → Hp → VK → Prop := fun vs H Q => ∃ (a : Addr) (ns : List Int), vs = [V.ref a] ∧ (SqL K H a (ns.map V.int) ∨ SqT K H a (ns.map V.int)) ∧ Q (.int ns.sum) H
theorem cr_sumA (hc : X.calm = true) : CallR X (.builtin "sum") (rSumA X.K) := by
  intro pins s σ H vs us Q I r h
  obtain ⟨a, ns, rfl, hs, q⟩ := h
  rw [Vals.ref1 r]
  rcases hs with hs | hs
  · obtain ⟨its, rv, hl, _⟩ := I.list hs
    exact sum_raw (I.ok.hd hc) hl.isList rv.ints fun h' tk t' hk => ⟨.int _, H, I.kept hk, ⟨_, rfl⟩, q⟩
  · obtain ⟨its, rv, hl, _⟩ := I.tuple hs
    have hi := rv.ints
    obtain ⟨xs, e⟩ := hi.allInts.items
    have hn : numsOf (intItems xs).toList = ns := by rw [← e]; exact hi.numsOf
    rw [nums_intItems] at hn
    have hl' : s.heap.IsTuple a its.toArray := hl
    rw [e] at hl'
    refine sum_tupG (I.ok.hd hc) hl' fun h' tk t' hk => ?_
    rw [preSum_eq, List.take_of_length_le (by simp), hn]
    exact ⟨.int _, H, I.kept hk, ⟨_, rfl⟩, q⟩
def oSumA : DOn := fun ds cs P => ∃ ns : List Int, (ds = [.lst (ns.map D.int)] ∨ ds = [.tup (ns.map D.int)]) ∧ P (.int ns.sum) cs
theorem adq_sumA : AdqN K (rSumA K) oSumA := fun F cs H xs ds P Q s r ho pe => by
  obtain ⟨ns, h, q⟩ := ho
  rcases h with rfl | rfl
  · cases r with
    | cons r1 r2 =>
      cases r2
      cases r1 with
      | lst h r =>
        have e2 := RepL.intsL ns r
        subst e2
        exact ⟨_, ns, rfl, .inl (ex_l pur_le h), pe H cs _ _ s (.int _) q⟩
  · cases r with
    | cons r1 r2 =>
      cases r2
      cases r1 with
      | tup h r =>
        have e2 := RepL.intsL ns r
        subst e2
        exact ⟨_, ns, rfl, .inr (ex_t pur_le h), pe H cs _ _ s (.int _) q⟩
end
section
variable {ρ : DL.Env} {cs : Cs} {P : DP} {Z : XZ} {wa wb wc we : DL.WE} {w wk : WA} {d : D} {p : Addr} {xs : List D} {f : Fin}
theorem look_hd {m : MO} : look p ((p, m) :: cs) = some m := by unfold look; rw [if_pos rfl]
theorem put_hd {m m' : MO} : put p m' ((p, m) :: cs) = (p, m') :: cs := by unfold put; rw [if_pos rfl]
theorem del_hd {m : MO} : del p ((p, m) :: cs) = cs := by unfold del; rw [if_pos rfl]
theorem r_frz (h : we ρ cs (fun d cs1 => ∃ p xs, d = .opq (.ref p) ∧ look p cs1 = some (.lst xs) ∧ P (.lst xs) (del p cs1)) Z) : wFrz we ρ cs P Z := h
theorem r_frzH (h : P (.lst xs) cs) : ∃ q ys, D.opq (.ref p) = .opq (.ref q) ∧ look q ((p, MO.lst xs) :: cs) = some (.lst ys) ∧ P (.lst ys) (del q ((p, MO.lst xs) :: cs)) := ⟨p, xs, rfl, look_hd, by rw [del_hd]; exact h⟩
theorem r_appendH (hz : xs.length < 100000) (h : P .non ((p, .lst (xs ++ [d])) :: cs)) : oAppend (.opq (.ref p)) [d] ((p, .lst xs) :: cs) P := r_append look_hd hz (by rw [put_hd]; exact h)
theorem BagIn.cons {q : Addr} {m : MO} (h : BagIn p cs) (hq : q ∉ adr cs) : BagIn p ((q, m) :: cs) := by
  obtain ⟨b, e, hb⟩ := h
  refine ⟨b, ?_, hb⟩
  unfold look
  rw [if_neg fun z => hq ?_]
  · exact e
  · rw [z]; exact List.mem_map.mpr ⟨(p, b), look_mem e, rfl⟩
theorem r_isMH {R : Prop} (h : R) : isL (.opq (.ref p)) ((p, .lst xs) :: cs) ∧ R := r_isM look_hd h
theorem r_lstM (h : w ρ cs (fun ds cs1 => ∀ p, p ∉ adr cs1 → P (.opq (.ref p)) ((p, .lst ds) :: cs1)) Z) : wLstM w ρ cs P Z := h
theorem r_chain {o o' : DO2} (h : wa ρ cs (fun x cs1 => wb ρ cs1 (fun y cs2 => o x y cs2 fun z cs3 => match z with
  | .bl k => (k = true → wc ρ cs3 (fun u cs4 => o' y u cs4 P) Z) ∧ (k = false → P (.bl false) cs3)
  | _ => False) Z) Z) : wChain o o' wa wb wc ρ cs P Z := h
theorem r_par3 {i j l : Nat} (h : w ρ cs (fun ds cs1 => match ds with
  | [x, y, z] => f.nx (((ρ.set i (some x)).set j (some y)).set l (some z)) cs1
  | _ => False) (fun x cs1 => f.ex x ρ cs1)) : sPar3 i j l w f ρ cs := h
theorem r_callK {sp : DSp} (h : w ρ cs (fun ds cs1 => wk ρ cs1 (fun zs cs2 => sp (ds ++ zs) cs2 P Z) Z) Z) : wCallK sp w wk ρ cs P Z := h
theorem r_anyI {R : List D → Cs → Prop} (h : we ρ cs (fun d cs1 => match d with | .lst xs => R xs cs1 | .tup xs => R xs cs1 | _ => False) Z) : iAnyD we ρ cs R Z := h
theorem r_callD {sp : DSp} {dds : List D} (h : w ρ cs (fun ds cs1 => sp (ds ++ dds) cs1 P Z) Z) : wCall sp dds w ρ cs P Z := h
end
end DL
namespace DL
open PySem L2
structure Bx where
  l : Rat
  t : Rat
  w : Rat
  h : Rat
def Bx.d (b : Bx) : D := dB b.l b.t b.w b.h
structure Bx.Sz (b : Bx) (n : Nat) : Prop where
  l : DL.Sz n b.l
  t : DL.Sz n b.t
  w : DL.Sz n b.w
  h : DL.Sz n b.h
structure Bx.Pos (b : Bx) : Prop where
  w : 0 < b.w
  h : 0 < b.h
/-- weights that may be shared by -/
structure WOk (ws : List Int) : Prop where
  l0 : 1 ≤ ws.length
  l1 : ws.length ≤ 12
  pos : ∀ w ∈ ws, 1 ≤ w
  sum : ws.sum < 2 ^ 23
/-- weights as the package takes them -/
structure WtOk (ws : List Int) : Prop where
  l0 : 1 ≤ ws.length
  l1 : ws.length ≤ 12
  rg : ∀ w ∈ ws, 1 ≤ w ∧ w ≤ 400000
theorem sum_le {k : Int} : ∀ {ws : List Int}, (∀ w ∈ ws, w ≤ k) → ws.sum ≤ k * ws.length
  | [], _ => by simp
  | w :: ws, h => by
    have h1 := h w (List.mem_cons_self ..)
    have h2 := sum_le fun x hx => h x (List.mem_cons_of_mem _ hx)
    rw [List.sum_cons, List.length_cons, Int.natCast_add, Int.mul_add]
    omega
theorem len_le_sum : ∀ {ws : List Int}, (∀ w ∈ ws, 1 ≤ w) → (ws.length : Int) ≤ ws.sum
  | [], _ => by simp
  | w :: ws, h => by
    have h1 := h w (List.mem_cons_self ..)
    have h2 := len_le_sum fun x hx => h x (List.mem_cons_of_mem _ hx)
    rw [List.sum_cons, List.length_cons, Int.natCast_add]
    omega
theorem WtOk.wok {ws : List Int} (h : WtOk ws) : WOk ws := by
  refine ⟨h.l0, h.l1, fun w hw => (h.rg w hw).1, ?_⟩
  have := sum_le fun w hw => (h.rg w hw).2
  have := h.l1
  omega
theorem WOk.sum_pos {ws : List Int} (h : WOk ws) : 0 < ws.sum := by
  have := len_le_sum h.pos
  have := h.l0
  omega
def preS (ws : List Int) (i : Nat) : Int := (ws.take i).sum
theorem preS_succ {ws : List Int} {i : Nat} {w : Int} (h : ws[i]? = some w) : preS ws (i + 1) = preS ws i + w := by
  unfold preS
  rw [take_more h, List.sum_append]
  simp
theorem preS_zero (ws : List Int) : preS ws 0 = 0 := by simp [preS]
theorem preS_len (ws : List Int) : preS ws ws.length = ws.sum := by simp [preS]
theorem preS_nonneg {ws : List Int} (h : ∀ w ∈ ws, 1 ≤ w) (i : Nat) : 0 ≤ preS ws i := by
  have := len_le_sum (ws := ws.take i) fun w hw => h w (List.mem_of_mem_take hw)
  unfold preS
  omega
theorem preS_le {ws : List Int} (h : ∀ w ∈ ws, 1 ≤ w) (i : Nat) : preS ws i ≤ ws.sum := by
  have h1 : (ws.take i ++ ws.drop i).sum = ws.sum := by rw [List.take_append_drop]
  have h2 := len_le_sum (ws := ws.drop i) fun w hw => h w (List.mem_of_mem_drop hw)
  rw [List.sum_append] at h1
  unfold preS
  omega
theorem mem_le_sum {ws : List Int} (h : ∀ w ∈ ws, 1 ≤ w) {i : Nat} {w : Int} (hw : ws[i]? = some w) : w ≤ ws.sum := by
  have h1 := preS_succ hw
  have h2 := preS_le h (i + 1)
  have h3 := preS_nonneg h i
  omega
theorem Sz.frac {a b : Int} (h0 : 0 ≤ a) (h1 : a < 2 ^ 23) (h2 : 0 < b) (h3 : b < 2 ^ 23) : Sz 23 (Rat.divInt a b) := Sz.divInt (n := 23) (by omega) (by omega) (by omega) (Nat.le_refl _)
theorem divInt_plus {a b c : Int} (h : c ≠ 0) : Rat.divInt (a + b) c = Rat.divInt a c + Rat.divInt b c := by
  rw [Rat.divInt_eq_div, Rat.divInt_eq_div, Rat.divInt_eq_div, Rat.intCast_add, Rat.div_def, Rat.div_def, Rat.div_def, Rat.add_mul]
/-- what stands at a share of a box, down or across -/
def cutB (b : Bx) (dn : Bool) (begin share : Rat) : Bx := if dn then ⟨b.l, b.t + b.h * begin, b.w, b.h * share⟩ else ⟨b.l + b.w * begin, b.t, b.w * share, b.h⟩
def splitAt_ (b : Bx) (ws : List Int) (dn : Bool) (i : Nat) : Bx := cutB b dn (Rat.divInt (preS ws i) ws.sum) (Rat.divInt (ws.getD i 0) ws.sum)
def splitB (b : Bx) (ws : List Int) (dn : Bool) : List Bx := (List.range ws.length).map (splitAt_ b ws dn)
def sideD (dn : Bool) : D := .str (if dn then "down" else "across")
theorem step_rat (x y : Rat) {p w c : Int} (h : c ≠ 0) : x + y * Rat.divInt p c + y * Rat.divInt w c = x + y * Rat.divInt (p + w) c := by
  rw [divInt_plus h, Rat.mul_add, Rat.add_assoc]
theorem get_map_int {ws : List Int} {i : Nat} {d : D} (h : (ws.map D.int)[i]? = some d) : ∃ w, ws[i]? = some w ∧ d = .int w := by
  rw [List.getElem?_map] at h
  cases e : ws[i]? with
  | none => rw [e] at h; cases h
  | some w => rw [e] at h; cases h; exact ⟨w, rfl, rfl⟩
theorem cutB_sz {b : Bx} {n : Nat} (hb : b.Sz n) {x y : Rat} (hx : DL.Sz 23 x) (hy : DL.Sz 23 y) (dn : Bool) : (cutB b dn x y).Sz (n + n + 24) := by
  have big : ∀ {r : Rat} {k : Nat}, DL.Sz k r → k ≤ n + n + 24 → DL.Sz (n + n + 24) r := fun h l => h.mono l
  unfold cutB
  cases dn with
  | true => exact ⟨big hb.l (by omega), big (hb.t.add (hb.h.mul hx)) (by omega), big hb.w (by omega), big (hb.h.mul hy) (by omega)⟩
  | false => exact ⟨big (hb.l.add (hb.w.mul hx)) (by omega), big hb.t (by omega), big (hb.w.mul hy) (by omega), big hb.h (by omega)⟩
theorem splitAt_sz {b : Bx} {n : Nat} (hb : b.Sz n) {ws : List Int} (hw : WOk ws) (dn : Bool) {i : Nat} (hi : i < ws.length) : (splitAt_ b ws dn i).Sz (n + n + 24) := by
  have e : ws[i]? = some (ws.getD i 0) := by rw [List.getD_eq_getElem?_getD, List.getElem?_eq_getElem hi]; rfl
  have h1 := preS_nonneg hw.pos i
  have h2 := preS_le hw.pos i
  have h3 := hw.sum
  have h4 := hw.sum_pos
  have h5 := mem_le_sum hw.pos e
  have h6 := hw.pos _ (List.mem_of_getElem? e)
  exact cutB_sz hb (Sz.frac h1 (by omega) h4 h3) (Sz.frac (by omega) (by omega) h4 h3) dn
theorem plD_Bx (b : Bx) {n : Nat} : plD (n + 2) b.d = true := by
  unfold Bx.d dB
  refine plD_tI ?_ (by show 4 ≤ 100000; decide)
  simp only [plL, plD_dR, Bool.and_self]
theorem plD_Bxs (bs : List Bx) (hl : bs.length ≤ 100000) {n : Nat} : plD (n + 3) (.lst (bs.map Bx.d)) = true := by
  refine plD_lI (plL_of fun d hd => ?_) (by rw [List.length_map]; exact hl)
  obtain ⟨b, _, rfl⟩ := List.mem_map.mp hd
  exact plD_Bx b
theorem plD_int (i : Int) {n : Nat} : plD n (.int i) = true := by cases n <;> rfl
theorem plL_ints (ws : List Int) {n : Nat} : plL n (ws.map D.int) = true := plL_of fun d hd => by
  obtain ⟨w, _, rfl⟩ := List.mem_map.mp hd
  exact plD_int w
theorem plD_ints (ws : List Int) (hl : ws.length ≤ 100000) {n : Nat} : plD (n + 1) (.lst (ws.map D.int)) = true := plD_lI (plL_ints ws) (by rw [List.length_map]; exact hl)
theorem plD_intsT (ws : List Int) (hl : ws.length ≤ 100000) {n : Nat} : plD (n + 1) (.tup (ws.map D.int)) = true := plD_tI (plL_ints ws) (by rw [List.length_map]; exact hl)
theorem szlt {a : Int} (h0 : 0 < a) (h1 : a < 2 ^ 23) : a.natAbs < 2 ^ 9000 := by
  have h : a.natAbs < 2 ^ 23 := by omega
  exact Nat.lt_of_lt_of_le h (Nat.pow_le_pow_right (by decide) (by decide))
section
variable {cs : Cs} {P : DP} {dn : Bool}
theorem r_eqDn (h : P (.bl dn) cs) : oEq (sideD dn) (.str "down") cs P := ⟨rfl, rfl, by
  cases dn
  · rw [show eqD (sideD false) (.str "down") = false by decide]; exact h
  · rw [show eqD (sideD true) (.str "down") = true by decide]; exact h⟩
theorem r_eqAc (h : P (.bl (!dn)) cs) : oEq (sideD dn) (.str "across") cs P := ⟨rfl, rfl, by
  cases dn
  · rw [show eqD (sideD false) (.str "across") = true by decide]; exact h
  · rw [show eqD (sideD true) (.str "across") = false by decide]; exact h⟩
end
theorem ltleR {a b c : Rat} (h1 : a < b) (h2 : b ≤ c) : a < c := by
  refine Rat.not_le.mp fun h3 => ?_
  exact Rat.not_le.mpr h1 (Rat.le_trans h2 h3)
theorem one_of_rising {f : Nat → Rat} {x : Rat} (hm : ∀ i, f i ≤ f (i + 1)) (h0 : f 0 ≤ x) : ∀ n, (List.range n).countP (fun i => !decide (x < f i) && decide (x < f (i + 1))) = if x < f n then 1 else 0
  | 0 => by rw [if_neg (Rat.not_lt.mpr h0)]; rfl
  | n + 1 => by
    rw [List.range_succ, List.countP_append, one_of_rising hm h0 n]
    by_cases h1 : x < f n
    · have h2 : x < f (n + 1) := ltleR h1 (hm n)
      rw [if_pos h1, if_pos h2]
      simp [List.countP_cons, h1]
    · rw [if_neg h1]
      by_cases h2 : x < f (n + 1)
      · rw [if_pos h2]
        simp [List.countP_cons, h1, h2]
      · rw [if_neg h2]
        simp [List.countP_cons, h2]
def edgeAt (a b : Rat) (ws : List Int) (i : Nat) : Rat := a + b * Rat.divInt (preS ws i) ws.sum
theorem edge_zero (a b : Rat) (ws : List Int) : edgeAt a b ws 0 = a := by
  unfold edgeAt
  rw [preS_zero, show Rat.divInt 0 ws.sum = 0 from Rat.zero_divInt _, Rat.mul_zero, Rat.add_zero]
theorem divInt_self' {a : Int} (h : a ≠ 0) : Rat.divInt a a = 1 := by
  rw [Rat.divInt_eq_div]
  exact div_self' (by intro z; exact h (Rat.intCast_eq_zero_iff.mp z))
theorem edge_len (a b : Rat) {ws : List Int} (h : WOk ws) : edgeAt a b ws ws.length = a + b := by
  unfold edgeAt
  have := h.sum_pos
  rw [preS_len, divInt_self' (by omega), Rat.mul_one]
theorem edge_step (a b : Rat) {ws : List Int} (h : WOk ws) {i : Nat} {w : Int} (hw : ws[i]? = some w) : edgeAt a b ws i + b * Rat.divInt w ws.sum = edgeAt a b ws (i + 1) := by
  unfold edgeAt
  have := h.sum_pos
  rw [step_rat _ _ (by omega), preS_succ hw]
theorem divInt_pos' {a b : Int} (ha : 0 < a) (hb : 0 < b) : 0 < Rat.divInt a b := by
  rw [Rat.divInt_eq_div]
  rw [Rat.div_def]
  exact Rat.mul_pos (Rat.intCast_pos.mpr ha) (Rat.inv_pos.mpr (Rat.intCast_pos.mpr hb))
theorem le_addR {a b : Rat} (h : 0 ≤ b) : a ≤ a + b := by
  have := Rat.add_le_add_left (c := a) |>.mpr h
  rwa [Rat.add_zero] at this
theorem edge_mono {a b : Rat} (hb : 0 < b) {ws : List Int} (h : WOk ws) (i : Nat) : edgeAt a b ws i ≤ edgeAt a b ws (i + 1) := by
  cases e : ws[i]? with
  | some w =>
    rw [← edge_step a b h e]
    have h1 := h.pos w (List.mem_of_getElem? e)
    exact le_addR (Rat.le_of_lt (Rat.mul_pos hb (divInt_pos' (by omega) h.sum_pos)))
  | none =>
    have e2 : ws.length ≤ i := List.getElem?_eq_none_iff.mp e
    unfold edgeAt preS
    rw [List.take_of_length_le e2, List.take_of_length_le (by omega)]
    exact Rat.le_refl
theorem splitAt_down {b : Bx} {ws : List Int} {i : Nat} {w : Int} (hw : ws[i]? = some w) : splitAt_ b ws true i = ⟨b.l, edgeAt b.t b.h ws i, b.w, b.h * Rat.divInt w ws.sum⟩ := by
  unfold splitAt_ cutB edgeAt
  rw [List.getD_eq_getElem?_getD, hw]; rfl
theorem splitAt_across {b : Bx} {ws : List Int} {i : Nat} {w : Int} (hw : ws[i]? = some w) : splitAt_ b ws false i = ⟨edgeAt b.l b.w ws i, b.t, b.w * Rat.divInt w ws.sum, b.h⟩ := by
  unfold splitAt_ cutB edgeAt
  rw [List.getD_eq_getElem?_getD, hw]; rfl
def Bx.lies (b : Bx) (x y : Rat) : Bool := liesR b.l b.t b.w b.h x y
theorem split_one {b : Bx} {ws : List Int} (hp : b.Pos) (hw : WOk ws) (dn : Bool) {x y : Rat} (x0 : b.l ≤ x) (x1 : x < b.l + b.w) (y0 : b.t ≤ y) (y1 : y < b.t + b.h) : (splitB b ws dn).countP (fun c => c.lies x y) = 1 := by
  unfold splitB
  rw [List.countP_map]
  cases dn with
  | true =>
    have e := one_of_rising (f := edgeAt b.t b.h ws) (x := y) (fun i => edge_mono hp.h hw i) (by rw [edge_zero]; exact y0) ws.length
    rw [edge_len _ _ hw, if_pos y1] at e
    rw [← e]
    refine List.countP_congr fun i hi => ?_
    have hi2 : i < ws.length := List.mem_range.mp hi
    have ew : ws[i]? = some ws[i] := List.getElem?_eq_getElem hi2
    show ((splitAt_ b ws true i).lies x y = true) ↔ _
    rw [splitAt_down ew]
    show liesR b.l (edgeAt b.t b.h ws i) b.w (b.h * Rat.divInt ws[i] ws.sum) x y = true ↔ _
    unfold liesR
    rw [edge_step _ _ hw ew, decide_eq_false (Rat.not_lt.mpr x0), decide_eq_true x1, Bool.not_false, Bool.true_and, Bool.true_and]
  | false =>
    have e := one_of_rising (f := edgeAt b.l b.w ws) (x := x) (fun i => edge_mono hp.w hw i) (by rw [edge_zero]; exact x0) ws.length
    rw [edge_len _ _ hw, if_pos x1] at e
    rw [← e]
    refine List.countP_congr fun i hi => ?_
    have hi2 : i < ws.length := List.mem_range.mp hi
    have ew : ws[i]? = some ws[i] := List.getElem?_eq_getElem hi2
    show ((splitAt_ b ws false i).lies x y = true) ↔ _
    rw [splitAt_across ew]
    show liesR (edgeAt b.l b.w ws i) b.t (b.w * Rat.divInt ws[i] ws.sum) b.h x y = true ↔ _
    unfold liesR
    rw [edge_step _ _ hw ew, decide_eq_false (Rat.not_lt.mpr y0), decide_eq_true y1, Bool.not_false, Bool.true_and, Bool.and_true]
theorem splitAt_pos {b : Bx} {ws : List Int} (hp : b.Pos) (hw : WOk ws) (dn : Bool) {i : Nat} {w : Int} (e : ws[i]? = some w) : (splitAt_ b ws dn i).Pos := by
  have h1 := hw.pos w (List.mem_of_getElem? e)
  have h2 := divInt_pos' (a := w) (b := ws.sum) (by omega) hw.sum_pos
  cases dn with
  | true => rw [splitAt_down e]; exact ⟨hp.w, Rat.mul_pos hp.h h2⟩
  | false => rw [splitAt_across e]; exact ⟨Rat.mul_pos hp.w h2, hp.h⟩
theorem Bx.Sz.mono {b : Bx} {n m : Nat} (h : b.Sz n) (l : n ≤ m) : b.Sz m := ⟨h.l.mono l, h.t.mono l, h.w.mono l, h.h.mono l⟩
theorem split_len (b : Bx) (ws : List Int) (dn : Bool) : (splitB b ws dn).length = ws.length := by unfold splitB; rw [List.length_map, List.length_range]
section
variable {cs : Cs} {P : DP} {b : Bx}
theorem r_ixB0 (h : P (dR b.l) cs) : oIx b.d (.int 0) cs P := h
theorem r_ixB1 (h : P (dR b.t) cs) : oIx b.d (.int 1) cs P := h
theorem r_ixB2 (h : P (dR b.w) cs) : oIx b.d (.int 2) cs P := h
theorem r_ixB3 (h : P (dR b.h) cs) : oIx b.d (.int 3) cs P := h
end
end DL
namespace DL
open PySem PySem.Spec PyProof.Rows L2
section
variable {X : Cx} {W : WX} {K : PySem.W.Frag} {σ : L2.St} {H : Hp}
/-- what was put aside is a thing that may change -/
theorem Sta.backM {F G0 : Hp} {cs : Cs} {p : Addr} {m : MO} {o : HO} (s : Sta K (upd F p o) G0 cs H) (hF : F p = none) (q : MoOk K (pur (upd F p o) cs H) m o) : Sta K F G0 ((p, m) :: cs) H ∧ p ∉ adr cs := by
  have hc : p ∉ adr cs := fun z => by
    have := s.ap p z
    rw [upd_same] at this; cases this
  have e : pur F ((p, m) :: cs) H = pur (upd F p o) cs H := by
    funext b
    unfold pur
    by_cases hb : b = p
    · subst hb
      rw [if_pos (.inr (List.mem_cons_self ..)), if_pos (.inl (by rw [upd_same]; rfl))]
    · rw [upd_ne hb]
      have : (b ∈ adr ((p, m) :: cs)) ↔ (b ∈ adr cs) := by
        show b ∈ p :: adr cs ↔ _
        rw [List.mem_cons]
        exact ⟨fun h => h.resolve_left hb, .inr⟩
      by_cases h2 : (F b).isSome = true ∨ b ∈ adr cs
      · rw [if_pos h2, if_pos (h2.imp id this.mpr)]
      · rw [if_neg h2, if_neg fun z => h2 (z.imp id this.mp)]
  refine ⟨⟨fun b u h => s.fr b u (by rw [upd_ne (fun z => by rw [z, hF] at h; cases h)]; exact h), by rw [e]; exact s.gr, ?_, ?_, ?_, ft_back s.ft hF⟩, hc⟩
  · show (p :: adr cs).Nodup
    exact List.nodup_cons.mpr ⟨hc, s.nd⟩
  · intro a ha
    rcases List.mem_cons.mp (show a ∈ p :: adr cs from ha) with e | e
    · rw [e]; exact hF
    · have := s.ap a e
      rw [upd_ne (fun z => hc (by rw [← z]; exact e))] at this; exact this
  · intro a m' hm
    rw [e]
    rcases List.mem_cons.mp hm with e | e
    · cases e
      exact ⟨o, s.fr p o upd_same, q⟩
    · exact s.ow a m' e
/-- the end of a comprehension -/
abbrev CEnd (K : PySem.W.Frag) (F G : Hp) (R : List D → Cs → Prop) (Q : VK) : Prop := ∀ H2 cs2 D vacc acc, F D = none → Sta K (upd F D (.lst vacc)) G cs2 H2 → RepL K (pur (upd F D (.lst vacc)) cs2 H2) vacc acc → R acc cs2 → Q (.ref D) H2
theorem cend_mut {F G : Hp} {P : DP} {Q : VK} (pe : PostE K F G P Q) : CEnd K F G (fun ds cs2 => ∀ p, p ∉ adr cs2 → P (.opq (.ref p)) ((p, .lst ds) :: cs2)) Q := fun H2 cs2 D vacc acc hF s ra h => by
  obtain ⟨s3, hn⟩ := s.backM (m := .lst acc) hF ra
  exact pe H2 _ _ _ s3 (.opq _) (h D hn)
theorem CEnd.le {F G G' : Hp} {R : List D → Cs → Prop} {Q : VK} (h : CEnd K F G R Q) (e : Ex G G') : CEnd K F G' R Q := fun H2 cs2 D vacc acc hF s => h H2 cs2 D vacc acc hF (s.from_ e)
def wCompR (wi : WI) (g : WG) (wt : WT) (we : DL.WE) (vs : List Nat) (R : DP → List D → Cs → Prop) : DL.WE := fun ρ cs P Z => wi ρ cs (fun xs cs1 => xs.length ≤ 100000 ∧ compW g wt we xs (wipeD ρ vs) cs1 [] (R P)) Z
abbrev RM : DP → List D → Cs → Prop := fun P ds cs2 => ∀ p, p ∉ adr cs2 → P (.opq (.ref p)) ((p, .lst ds) :: cs2)
theorem lcR_ok {wi : WI} {g : TG} {gd : WG} {wt : WT} {we : DL.WE} {vs : List Nat} {R : DP → List D → Cs → Prop} (gk : GOk K g gd vs) (hR : ∀ F G P Q, PostE K F G P Q → CEnd K F G (R P) Q) {Q : VK} : lE K W (wCompR wi gd wt we vs R) σ H Q → tLc (lI K W wi) g (lT K W0 wt) (lE K W0 we) vs σ H Q := by
  rintro ⟨F, cs, ρ, P, Z, s, re, hw, pe, px⟩
  have pc := hR F _ P Q pe
  refine ⟨F, cs, ρ, _, Z, s, re, hw, fun H1 cs1 J xs s1 yi h1 => ?_, px⟩
  intro D hD
  obtain ⟨hlen, h1⟩ := h1
  have hFD : F D = none := s1.fr.back hD
  have reW : RepE K (pur F cs1 H1) (L2.wipe σ vs) (wipeD ρ vs) := (re.mono s1.gr).wipe vs
  refine ⟨fun i m H' => i ≤ xs.length ∧ m = xs.length - i ∧ ∃ cs' acc vacc, Sta K (upd F D (.lst vacc)) (pur F cs1 H1) cs' H' ∧ RepL K (pur (upd F D (.lst vacc)) cs' H') vacc acc ∧ acc.length ≤ i ∧ compW gd wt we (xs.drop i) (wipeD ρ vs) cs' acc (R P),
    ⟨xs.length, Nat.zero_le _, rfl, cs1, [], [], s1.aside hD, .nil, Nat.le_refl _, h1⟩, ?_⟩
  rintro i m H2 ⟨hi, rfl, cs2, acc, vacc, s2, ra, hla, h2⟩
  cases e : xs.drop i with
  | nil =>
    have hl : xs.length ≤ i := by
      have z := congrArg List.length e
      rw [List.length_drop] at z
      have z' : xs.length - i = 0 := z
      omega
    have hie : i = xs.length := by omega
    rw [e] at h2
    exact .inl ⟨by rw [hie]; exact yi.stop _ cs2 H2 s2, pc H2 cs2 D vacc acc hFD (s2.from_ s1.gr) ra h2⟩
  | cons d r =>
    obtain ⟨e1, e2⟩ := drop_cons e
    have hlt : i < xs.length := (List.getElem?_eq_some_iff.mp e1).1
    rw [e] at h2
    refine .inr ⟨yi.go i d e1 _ cs2 H2 s2, fun H' => ∃ cs' acc vacc, Sta K (upd F D (.lst vacc)) (pur F cs1 H1) cs' H' ∧ RepL K (pur (upd F D (.lst vacc)) cs' H') vacc acc ∧ acc.length ≤ i + 1 ∧ compW gd wt we r (wipeD ρ vs) cs' acc (R P), ?_, ?_⟩
    · rintro H' ⟨cs', acc', vacc', s', ra', hl', h'⟩
      exact ⟨xs.length - (i + 1), by omega, by omega, rfl, cs', acc', vacc', s', ra', hl', by rw [e2]; exact h'⟩
    · intro x H3 hy
      obtain ⟨s3, r3⟩ := yi.yld i d e1 _ cs2 H2 x H3 s2 hy
      refine gk _ cs2 H3 _ (wipeD ρ vs) x d _ _ s3.self (reW.mono (s2.gr.trans s3.gr)) r3 wipe_wipe h2 fun σ4 ρ4 hw4 re4 h4 => ⟨hw4.trans rfl, ?_⟩
      refine ⟨_, cs2, ρ4, _, Z0, s3.self, re4, h4, fun H5 cs5 k s5 h5 => ?_, fun _ _ _ _ _ _ z => z⟩
      cases k with
      | false => exact iteF ⟨cs5, acc, vacc, s5.from_ (s2.gr.trans s3.gr), ra.mono (s3.gr.trans s5.gr), Nat.le_succ_of_le hla, h5.2 rfl⟩
      | true =>
        refine iteT ⟨_, cs5, ρ4, _, Z0, s5.self, re4.mono s5.gr, h5.1 rfl, fun H6 cs6 y dy s6 r6 h6 => ?_, fun _ _ _ _ _ _ z => z⟩
        have s7 := (s6.from_ ((s2.gr.trans s3.gr).trans s5.gr))
        obtain ⟨s8, e8⟩ := s7.turn (o' := .lst (vacc ++ [y])) hFD
        refine ⟨vacc, s6.fr D _ upd_same, ?_, cs6, acc ++ [dy], vacc ++ [y], s8, ?_, by rw [List.length_append]; exact Nat.succ_le_succ hla, h6⟩
        · rw [ra.length]; exact Nat.lt_of_le_of_lt (Nat.le_trans hla hi) (Nat.lt_of_le_of_lt hlen (by decide))
        · rw [e8]
          exact (ra.mono (s3.gr.trans (s5.gr.trans s6.gr))).append (.cons r6 .nil)
def compW2 (g : WG) (wt : WT) (wi1 : WI) (g1 : WG) (wt1 : WT) (we : DL.WE) (vs1 : List Nat) : List D → DL.Env → Cs → List D → (List D → Cs → Prop) → Prop
  | [], _, cs, acc, P => P acc cs
  | d :: r, ρ, cs, acc, P => g d ρ fun ρ1 => wt ρ1 cs (fun k cs1 => (k = true → wi1 ρ1 cs1 (fun xs cs2 => acc.length + xs.length ≤ 100000 ∧ compW g1 wt1 we xs (wipeD ρ1 vs1) cs2 acc (fun acc' cs3 => compW2 g wt wi1 g1 wt1 we vs1 r ρ cs3 acc' P)) Z0) ∧ (k = false → compW2 g wt wi1 g1 wt1 we vs1 r ρ cs1 acc P)) Z0
def wComp2 (wi : WI) (g : WG) (wt : WT) (wi1 : WI) (g1 : WG) (wt1 : WT) (we : DL.WE) (vs vs1 : List Nat) (R : DP → List D → Cs → Prop) : DL.WE := fun ρ cs P Z => wi ρ cs (fun xs cs1 => compW2 g wt wi1 g1 wt1 we vs1 xs (wipeD ρ vs) cs1 [] (R P)) Z
variable {elt tg iter tg1 iter1 : Expr} {ifs ifs1 : List Expr} {scope : Scope} {own : List (Str × Nat)} {vs1 : List Nat} {pos : Pos} {wi wi1 : WI} {g g1 : TG} {gd gd1 : WG} {wt wt1 : WT} {we : DL.WE}
theorem ds_setLcM {i : Nat} {y : Str} {py spos : Pos} (hc : X.calm = true) (hN : X.N.Nodup) (hy : X.N[i]? = some y) (hyl : X.env.scope.names.lookup y = some .local)
    (hsw : swapsWith (.ListComp elt [⟨tg, iter, ifs, 0⟩] scope pos) (some (.Name y py)) spos.line X.env = pure true) (hi : DI X W tg iter wi) (ok : BlkOk X.N X.env.scope scope own) (gk : GOk X.K g gd (own.map (·.2)))
    (hg : ∀ (s : Shared) (H : Hp) (C : Addr) (cl : List (Str × Addr)) (fp : List Addr), PG (X.blk s H scope (compEnvC scope cl C X.env) fp) tg g)
    (ht : ∀ (s : Shared) (H : Hp) (C : Addr) (cl : List (Str × Addr)) (fp : List Addr), PTs (X.blk s H scope (compEnvC scope cl C X.env) fp) ifs (lT X.K W0 wt))
    (he : ∀ (s : Shared) (H : Hp) (C : Addr) (cl : List (Str × Addr)) (fp : List Addr), DE (X.blk s H scope (compEnvC scope cl C X.env) fp) W0 elt we) (hs : ∀ x, foldedSetIterable iter X.env x = pure x := by intro _; rfl) :
    DS X W (.Assign [.Name y py] (.ListComp elt [⟨tg, iter, ifs, 0⟩] scope pos) spos) (sAsg (wCompR wi gd wt we (own.map (·.2)) RM) (gN i)) :=
  PS.imp (ps_setLc hc hN hy hyl hsw hi ok hg ht he hs) fun E σ H h => by
    obtain ⟨F, cs, ρ, f, s, re, hw, pe⟩ := h
    have h2 : lE X.K W (wCompR wi gd wt we (own.map (·.2)) RM) σ H (fun x H1 => gName i x σ H1 E.nx) := ⟨F, cs, ρ, _, _, s, re, hw, fun H1 cs1 v d s1 r1 h1 => pe.nx H1 cs1 _ _ s1 ((re.mono s1.gr).set r1 i) h1, pe.px re⟩
    exact lcR_ok gk (fun _ _ _ _ pe => cend_mut pe) h2
end
section
variable {ρ : DL.Env} {cs : Cs} {P : DP} {Z : XZ} {we : DL.WE} {wt wt1 : WT}
theorem r_compM_ {wi : WI} {g : WG} {vs : List Nat} {R : DP → List D → Cs → Prop} (h : wi ρ cs (fun xs cs1 => xs.length ≤ 100000 ∧ compW g wt we xs (wipeD ρ vs) cs1 [] (R P)) Z) : wCompR wi g wt we vs R ρ cs P Z := h
theorem r_comp2 {wi wi1 : WI} {g g1 : WG} {vs vs1 : List Nat} {R : DP → List D → Cs → Prop} (h : wi ρ cs (fun xs cs1 => compW2 g wt wi1 g1 wt1 we vs1 xs (wipeD ρ vs) cs1 [] (R P)) Z) : wComp2 wi g wt wi1 g1 wt1 we vs vs1 R ρ cs P Z := h
end
end DL
namespace DL
open PySem PySem.Spec PyProof.Rows L2
section
variable {p : Prop} [Decidable p] {A B : Prop} {k : Bool}
theorem r_isT (hk : k = true) (h : A) : (k = true → A) ∧ (k = false → B) := ⟨fun _ => h, fun z => absurd (hk.symm.trans z) (by decide)⟩
theorem r_isF (hk : k = false) (h : B) : (k = true → A) ∧ (k = false → B) := ⟨fun z => absurd (hk.symm.trans z) (by decide), fun _ => h⟩
theorem r_pos (hp : p) (h : A) : (decide p = true → A) ∧ (decide p = false → B) := r_isT (decide_eq_true hp) h
theorem r_neg_ (hp : ¬ p) (h : B) : (decide p = true → A) ∧ (decide p = false → B) := r_isF (decide_eq_false hp) h
theorem r_npos (hp : p) (h : B) : ((!decide p) = true → A) ∧ ((!decide p) = false → B) := r_isF (by rw [decide_eq_true hp]; rfl) h
end
theorem r_app11 {sp : DSp} {x0 y0 : D} {cs : Cs} {P : DP} {Z : XZ} (h : sp [x0, y0] cs P Z) : sp ([x0] ++ [y0]) cs P Z := h
theorem r_app12 {sp : DSp} {x0 y0 y1 : D} {cs : Cs} {P : DP} {Z : XZ} (h : sp [x0, y0, y1] cs P Z) : sp ([x0] ++ [y0, y1]) cs P Z := h
theorem r_app21 {sp : DSp} {x0 x1 y0 : D} {cs : Cs} {P : DP} {Z : XZ} (h : sp [x0, x1, y0] cs P Z) : sp ([x0, x1] ++ [y0]) cs P Z := h
theorem r_app22 {sp : DSp} {x0 x1 y0 y1 : D} {cs : Cs} {P : DP} {Z : XZ} (h : sp [x0, x1, y0, y1] cs P Z) : sp ([x0, x1] ++ [y0, y1]) cs P Z := h
theorem r_app31 {sp : DSp} {x0 x1 x2 y0 : D} {cs : Cs} {P : DP} {Z : XZ} (h : sp [x0, x1, x2, y0] cs P Z) : sp ([x0, x1, x2] ++ [y0]) cs P Z := h
theorem r_app32 {sp : DSp} {x0 x1 x2 y0 y1 : D} {cs : Cs} {P : DP} {Z : XZ} (h : sp [x0, x1, x2, y0, y1] cs P Z) : sp ([x0, x1, x2] ++ [y0, y1]) cs P Z := h
theorem r_app41 {sp : DSp} {x0 x1 x2 x3 y0 : D} {cs : Cs} {P : DP} {Z : XZ} (h : sp [x0, x1, x2, x3, y0] cs P Z) : sp ([x0, x1, x2, x3] ++ [y0]) cs P Z := h
theorem r_app42 {sp : DSp} {x0 x1 x2 x3 y0 y1 : D} {cs : Cs} {P : DP} {Z : XZ} (h : sp [x0, x1, x2, x3, y0, y1] cs P Z) : sp ([x0, x1, x2, x3] ++ [y0, y1]) cs P Z := h
theorem r_app51 {sp : DSp} {x0 x1 x2 x3 x4 y0 : D} {cs : Cs} {P : DP} {Z : XZ} (h : sp [x0, x1, x2, x3, x4, y0] cs P Z) : sp ([x0, x1, x2, x3, x4] ++ [y0]) cs P Z := h
theorem r_app52 {sp : DSp} {x0 x1 x2 x3 x4 y0 y1 : D} {cs : Cs} {P : DP} {Z : XZ} (h : sp [x0, x1, x2, x3, x4, y0, y1] cs P Z) : sp ([x0, x1, x2, x3, x4] ++ [y0, y1]) cs P Z := h
theorem r_dn1 {sp : DSp} {x0 : D} {cs : Cs} {P : DP} {Z : XZ} (h : sp [x0, sideD true] cs P Z) : sp [x0, .str "down"] cs P Z := h
theorem r_ac1 {sp : DSp} {x0 : D} {cs : Cs} {P : DP} {Z : XZ} (h : sp [x0, sideD false] cs P Z) : sp [x0, .str "across"] cs P Z := h
theorem r_dn2 {sp : DSp} {x0 x1 : D} {cs : Cs} {P : DP} {Z : XZ} (h : sp [x0, x1, sideD true] cs P Z) : sp [x0, x1, .str "down"] cs P Z := h
theorem r_ac2 {sp : DSp} {x0 x1 : D} {cs : Cs} {P : DP} {Z : XZ} (h : sp [x0, x1, sideD false] cs P Z) : sp [x0, x1, .str "across"] cs P Z := h
theorem r_dn3 {sp : DSp} {x0 x1 x2 : D} {cs : Cs} {P : DP} {Z : XZ} (h : sp [x0, x1, x2, sideD true] cs P Z) : sp [x0, x1, x2, .str "down"] cs P Z := h
theorem r_ac3 {sp : DSp} {x0 x1 x2 : D} {cs : Cs} {P : DP} {Z : XZ} (h : sp [x0, x1, x2, sideD false] cs P Z) : sp [x0, x1, x2, .str "across"] cs P Z := h
theorem r_dn4 {sp : DSp} {x0 x1 x2 x3 : D} {cs : Cs} {P : DP} {Z : XZ} (h : sp [x0, x1, x2, x3, sideD true] cs P Z) : sp [x0, x1, x2, x3, .str "down"] cs P Z := h
theorem r_ac4 {sp : DSp} {x0 x1 x2 x3 : D} {cs : Cs} {P : DP} {Z : XZ} (h : sp [x0, x1, x2, x3, sideD false] cs P Z) : sp [x0, x1, x2, x3, .str "across"] cs P Z := h
theorem r_dn5 {sp : DSp} {x0 x1 x2 x3 x4 : D} {cs : Cs} {P : DP} {Z : XZ} (h : sp [x0, x1, x2, x3, x4, sideD true] cs P Z) : sp [x0, x1, x2, x3, x4, .str "down"] cs P Z := h
theorem r_ac5 {sp : DSp} {x0 x1 x2 x3 x4 : D} {cs : Cs} {P : DP} {Z : XZ} (h : sp [x0, x1, x2, x3, x4, sideD false] cs P Z) : sp [x0, x1, x2, x3, x4, .str "across"] cs P Z := h
section
variable {ρ : DL.Env} {cs : Cs} {wa wb we wo wi wv : DL.WE} {w : WA} {ta : WT} {u v : WS} {i j l : Nat} {nx bk ct : DL.Env → Cs → Prop} {rt : D → Cs → Prop} {ex : Exn → DL.Env → Cs → Prop}
theorem q_sif (h : ta ρ cs (fun k cs1 => (k = true → u ⟨nx, rt, ex, bk, ct⟩ ρ cs1) ∧ (k = false → v ⟨nx, rt, ex, bk, ct⟩ ρ cs1)) (fun x cs1 => ex x ρ cs1)) : sIf ta u v ⟨nx, rt, ex, bk, ct⟩ ρ cs := h
theorem q_set (h : we ρ cs (fun d cs1 => nx (ρ.set i (some d)) cs1) (fun x cs1 => ex x ρ cs1)) : sAsg we (gN i) ⟨nx, rt, ex, bk, ct⟩ ρ cs := h
theorem q_asg {g : WG} (h : we ρ cs (fun d cs1 => g d ρ fun ρ' => nx ρ' cs1) (fun x cs1 => ex x ρ cs1)) : sAsg we g ⟨nx, rt, ex, bk, ct⟩ ρ cs := h
theorem q_ret (h : we ρ cs rt (fun x cs1 => ex x ρ cs1)) : sRet we ⟨nx, rt, ex, bk, ct⟩ ρ cs := h
theorem q_retN (h : rt .non cs) : sRetN ⟨nx, rt, ex, bk, ct⟩ ρ cs := h
theorem q_drop (h : we ρ cs (fun _ cs1 => nx ρ cs1) (fun x cs1 => ex x ρ cs1)) : sDrop we ⟨nx, rt, ex, bk, ct⟩ ρ cs := h
theorem q_next (h : nx ρ cs) : sNext ⟨nx, rt, ex, bk, ct⟩ ρ cs := h
theorem q_brk (h : bk ρ cs) : sBreak ⟨nx, rt, ex, bk, ct⟩ ρ cs := h
theorem q_ct (h : ct ρ cs) : sCont ⟨nx, rt, ex, bk, ct⟩ ρ cs := h
theorem q_par (h : wa ρ cs (fun x cs1 => wb ρ cs1 (fun y cs2 => nx ((ρ.set i (some x)).set j (some y)) cs2) (fun x cs1 => ex x ρ cs1)) (fun x cs1 => ex x ρ cs1)) : sPar i j (wCons wa (wCons wb wNil)) ⟨nx, rt, ex, bk, ct⟩ ρ cs := h
theorem q_setix (h : wv ρ cs (fun v cs1 => wo ρ cs1 (fun x cs2 => wi ρ cs2 (fun i cs3 => oSetL x i v cs3 fun cs4 => nx ρ cs4) (fun x cs1 => ex x ρ cs1)) (fun x cs1 => ex x ρ cs1)) (fun x cs1 => ex x ρ cs1)) : sSetIx wv wo wi oSetL ⟨nx, rt, ex, bk, ct⟩ ρ cs := h
theorem q_aug {o : DO2} {x : D} (hi : ρ[i]? = some (some x)) (h : we ρ cs (fun y cs1 => o x y cs1 fun z cs2 => nx (ρ.set i (some z)) cs2) (fun x cs1 => ex x ρ cs1)) : sAug i o we ⟨nx, rt, ex, bk, ct⟩ ρ cs := r_aug hi h
theorem q_for {wi : WI} {g : WG} (h : wi ρ cs (fun xs cs1 => loopW g u ⟨nx, rt, ex, bk, ct⟩ xs ρ cs1) (fun x cs1 => ex x ρ cs1)) : sFor wi g u ⟨nx, rt, ex, bk, ct⟩ ρ cs := h
theorem q_par3 (h : w ρ cs (fun ds cs1 => match ds with
  | [x, y, z] => nx (((ρ.set i (some x)).set j (some y)).set l (some z)) cs1
  | _ => False) (fun x cs1 => ex x ρ cs1)) : sPar3 i j l w ⟨nx, rt, ex, bk, ct⟩ ρ cs := h
end
section
variable {ρ : DL.Env} {cs : Cs} {P : DP} {Z : XZ} {x y z : D} {ds : List D}
theorem g_s {u : WS} {f : Fin} (h : u f ρ cs) : u f ρ cs := h
theorem g_e {u : DL.WE} (h : u ρ cs P Z) : u ρ cs P Z := h
theorem g_t {u : WT} {Q : Bool → Cs → Prop} (h : u ρ cs Q Z) : u ρ cs Q Z := h
theorem g_a {u : WA} {Q : List D → Cs → Prop} (h : u ρ cs Q Z) : u ρ cs Q Z := h
theorem g_o {u : WO} {Q : Option Int → Cs → Prop} (h : u ρ cs Q Z) : u ρ cs Q Z := h
theorem g_2 {o : DO2} (h : o x y cs P) : o x y cs P := h
theorem g_n {o : DOn} (h : o ds cs P) : o ds cs P := h
theorem g_p {o : DSp} (h : o ds cs P Z) : o ds cs P Z := h
theorem g_m {o : DMt} (h : o x ds cs P) : o x ds cs P := h
theorem g_g {g : WG} {k : DL.Env → Prop} (h : g x ρ k) : g x ρ k := h
theorem g_gs {g : WGs} {k : DL.Env → Prop} (h : g ds ρ k) : g ds ρ k := h
theorem g_w {o : DSet} {k : Cs → Prop} (h : o x y z cs k) : o x y z cs k := h
theorem g_c {A B : Prop} (h : A ∧ B) : A ∧ B := h
end
section
variable {α : Type} {ρ : DL.Env} {cs : Cs} {we : DL.WE} {wt : WT}
theorem r_loopL {nx bk ct : DL.Env → Cs → Prop} {rt : D → Cs → Prop} {ex : Exn → DL.Env → Cs → Prop} {gd : WG} {wb : WS} (I : Nat → DL.Env → Cs → Prop) {l : List α} {g : α → D} (h0 : I 0 ρ cs)
    (hs : ∀ i a ρ cs (N : DL.Env → Cs → Prop), l[i]? = some a → I i ρ cs → (∀ ρ' cs', I (i + 1) ρ' cs' → N ρ' cs') → gd (g a) ρ fun ρ1 => wb ⟨N, rt, ex, nx, N⟩ ρ1 cs)
    (hd : ∀ ρ cs, I l.length ρ cs → nx ρ cs) : loopW gd wb ⟨nx, rt, ex, bk, ct⟩ (l.map g) ρ cs := by
  refine r_loop0 I h0 (fun i d ρ cs N e hi hN => ?_) (fun ρ cs h => hd ρ cs (by rw [List.length_map] at h; exact h))
  rw [List.getElem?_map] at e
  obtain ⟨a, e1, rfl⟩ := Option.map_eq_some_iff.mp e
  exact hs i a ρ cs N e1 hi hN
theorem r_cfm {gd : WG} {R : List D → Cs → Prop} {l : List α} {g : α → D} (p : α → Bool) (f : α → D)
    (hs : ∀ a (N : DP) (N' : Cs → Prop), a ∈ l → (p a = true → N (f a) cs) → (p a = false → N' cs) → gd (g a) ρ fun ρ1 => wt ρ1 cs (fun b cs1 => (b = true → we ρ1 cs1 N Z0) ∧ (b = false → N' cs1)) Z0)
    (hd : R ((l.filter p).map f) cs) : compW gd wt we (l.map g) ρ cs [] R := by
  refine r_comp0 (fun i acc cs' => acc = ((l.take i).filter p).map f ∧ cs' = cs) ⟨rfl, rfl⟩ ?_ ?_
  · rintro i d acc cs' N e ⟨rfl, rfl⟩ hN
    rw [List.getElem?_map] at e
    obtain ⟨a, e1, rfl⟩ := Option.map_eq_some_iff.mp e
    refine hs a _ _ (List.mem_of_getElem? e1) (fun h => hN _ _ ⟨?_, rfl⟩) (fun h => hN _ _ ⟨?_, rfl⟩)
    · rw [take_more e1, List.filter_append, List.map_append, List.filter_cons_of_pos h]; rfl
    · rw [take_more e1, List.filter_append, List.filter_cons_of_neg (by rw [h]; decide), List.filter_nil, List.append_nil]
  · rintro acc cs' ⟨rfl, rfl⟩
    rw [List.length_map, List.take_length]
    exact hd
theorem r_cm {gd : WG} {R : List D → Cs → Prop} {l : List α} {g : α → D} (f : α → D)
    (hs : ∀ a (N : DP) (N' : Cs → Prop), a ∈ l → N (f a) cs → gd (g a) ρ fun ρ1 => wt ρ1 cs (fun b cs1 => (b = true → we ρ1 cs1 N Z0) ∧ (b = false → N' cs1)) Z0)
    (hd : R (l.map f) cs) : compW gd wt we (l.map g) ρ cs [] R := by
  refine r_cfm (fun _ => true) f (fun a N N' h h1 h2 => hs a N N' h (h1 rfl)) ?_
  rw [List.filter_eq_self.mpr fun _ _ => rfl]
  exact hd
theorem r_loopE {nx bk ct : DL.Env → Cs → Prop} {rt : D → Cs → Prop} {ex : Exn → DL.Env → Cs → Prop} {gd : WG} {wb : WS} {xs : List D} (I : Nat → DL.Env → Cs → Prop) {l : List α} {g : α → D} (e : xs = l.map g) (h0 : I 0 ρ cs)
    (hs : ∀ i a ρ cs (N : DL.Env → Cs → Prop), l[i]? = some a → I i ρ cs → (∀ ρ' cs', I (i + 1) ρ' cs' → N ρ' cs') → gd (g a) ρ fun ρ1 => wb ⟨N, rt, ex, nx, N⟩ ρ1 cs)
    (hd : ∀ ρ cs, I l.length ρ cs → nx ρ cs) : loopW gd wb ⟨nx, rt, ex, bk, ct⟩ xs ρ cs := by subst e; exact r_loopL I h0 hs hd
theorem r_cfmE {gd : WG} {R : List D → Cs → Prop} {xs : List D} {l : List α} {g : α → D} (e : xs = l.map g) (p : α → Bool) (f : α → D)
    (hs : ∀ a (N : DP) (N' : Cs → Prop), a ∈ l → (p a = true → N (f a) cs) → (p a = false → N' cs) → gd (g a) ρ fun ρ1 => wt ρ1 cs (fun b cs1 => (b = true → we ρ1 cs1 N Z0) ∧ (b = false → N' cs1)) Z0)
    (hd : R ((l.filter p).map f) cs) : compW gd wt we xs ρ cs [] R := by subst e; exact r_cfm p f hs hd
theorem r_cmE {gd : WG} {R : List D → Cs → Prop} {xs : List D} {l : List α} {g : α → D} (e : xs = l.map g) (f : α → D)
    (hs : ∀ a (N : DP) (N' : Cs → Prop), a ∈ l → N (f a) cs → gd (g a) ρ fun ρ1 => wt ρ1 cs (fun b cs1 => (b = true → we ρ1 cs1 N Z0) ∧ (b = false → N' cs1)) Z0)
    (hd : R (l.map f) cs) : compW gd wt we xs ρ cs [] R := by subst e; exact r_cm f hs hd
theorem r_zip {w : WA} {Z : XZ} {R : List D → Cs → Prop} (h : w ρ cs (fun ds cs1 => match ds with | [.lst xs, .lst ys] => R (List.zipWith (fun d e => D.tup [d, e]) xs ys) cs1 | [.tup xs, .tup ys] => R (List.zipWith (fun d e => D.tup [d, e]) xs ys) cs1 | _ => False) Z) : iZp w ρ cs R Z := h
theorem zip_map {β γ : Type} (f : α → β) (g : α → γ) (l : List α) {δ : Type} (h : β → γ → δ) : List.zipWith h (l.map f) (l.map g) = l.map fun a => h (f a) (g a) := by
  induction l with
  | nil => rfl
  | cons a l ih => simp [ih]
end
section
variable {p q : Addr} {m : MO} {cs cs' : Cs}
theorem BagIn.ne (h : BagIn p cs) (hq : q ∉ adr cs) : p ≠ q := fun z => by
  obtain ⟨b, e, _⟩ := h
  exact hq (z ▸ List.mem_map.mpr ⟨(p, b), look_mem e, rfl⟩)
theorem BagIn.over (hn : p ≠ q) (h : BagIn p cs) : BagIn p ((q, m) :: cs) := by
  obtain ⟨b, e, hb⟩ := h
  exact ⟨b, by unfold look; rw [if_neg (Ne.symm hn)]; exact e, hb⟩
theorem BagIn.under (hn : p ≠ q) (h : BagIn p ((q, m) :: cs)) : BagIn p cs := by
  obtain ⟨b, e, hb⟩ := h
  refine ⟨b, ?_, hb⟩
  unfold look at e
  rw [if_neg (Ne.symm hn)] at e
  exact e
theorem BagStep.under (hn : p ≠ q) (h : BagStep p ((q, m) :: cs) cs') : ∃ cs0, cs' = (q, m) :: cs0 ∧ BagStep p cs cs0 := by
  obtain ⟨b, e⟩ := h.eq
  have e2 : put p b ((q, m) :: cs) = (q, m) :: put p b cs := by
    rw [put, if_neg (Ne.symm hn)]
  rw [e2] at e
  subst e
  exact ⟨_, rfl, h.bag.under hn, b, rfl⟩
end
/-- weights: a list or a tuple -/
def WD (wd : D) (ws : List Int) : Prop := wd = .lst (ws.map D.int) ∨ wd = .tup (ws.map D.int)
theorem WD.l (ws : List Int) : WD (.lst (ws.map D.int)) ws := .inl rfl
theorem WD.t (ws : List Int) : WD (.tup (ws.map D.int)) ws := .inr rfl
theorem r_lenW {wd : D} {ws : List Int} (h : WD wd ws) {cs : Cs} {P : DP} (hq : P (.int (ws.length : Int)) cs) : oLen [wd] cs P := by
  rcases h with rfl | rfl
  · exact r_lenL (by rw [List.length_map]; exact hq)
  · exact r_lenT (by rw [List.length_map]; exact hq)
theorem r_sumW {wd : D} {ws : List Int} (h : WD wd ws) {cs : Cs} {P : DP} (hq : P (.int ws.sum) cs) : oSumA [wd] cs P := by
  rcases h with rfl | rfl
  · exact ⟨ws, .inl rfl, hq⟩
  · exact ⟨ws, .inr rfl, hq⟩
theorem sIx_int {n : Nat} {a : Int} (h0 : 0 ≤ a) (h : a ≤ n) (d : Nat) : HT.sIx n d (some a) = a.toNat := by
  obtain ⟨k, rfl⟩ : ∃ k : Nat, a = k := ⟨a.toNat, by omega⟩
  rw [HT.sIx_nat]; omega
theorem cutD_int {xs : List D} {a b : Int} (h0 : 0 ≤ a) (h1 : a ≤ b) (h2 : b ≤ xs.length) : cutD xs (some a) (some b) = (xs.drop a.toNat).take (b - a).toNat := by
  unfold cutD
  rw [sIx_int h0 (by omega), sIx_int (by omega) h2]
  congr 1
  omega
/-- the sizes of rows of n things -/
structure SzOk (zs : List Int) (n : Nat) : Prop where
  pos : ∀ z ∈ zs, 1 ≤ z
  sum : zs.sum = n
def rowAt {α : Type} (xs : List α) (zs : List Int) (i : Nat) : List α := (xs.drop (preS zs i).toNat).take (zs.getD i 0).toNat
def rowsOf {α : Type} (xs : List α) (zs : List Int) : List (List α) := (List.range zs.length).map (rowAt xs zs)
theorem getD_of {zs : List Int} {i : Nat} {z : Int} (h : zs[i]? = some z) : zs.getD i 0 = z := by
  rw [List.getD_eq_getElem?_getD, h]; rfl
theorem rowAt_map {α β : Type} (f : α → β) (xs : List α) (zs : List Int) (i : Nat) : rowAt (xs.map f) zs i = (rowAt xs zs i).map f := by
  unfold rowAt; rw [List.map_take, List.map_drop]
theorem rowsOf_map {α β : Type} (f : α → β) (xs : List α) (zs : List Int) : rowsOf (xs.map f) zs = (rowsOf xs zs).map (List.map f) := by
  unfold rowsOf
  rw [List.map_map]
  exact List.map_congr_left fun i _ => rowAt_map f xs zs i
theorem SzOk.pre_le {zs : List Int} {n : Nat} (h : SzOk zs n) (i : Nat) : preS zs i ≤ n := by rw [← h.sum]; exact preS_le h.pos i
theorem SzOk.len {zs : List Int} {n : Nat} (h : SzOk zs n) : zs.length ≤ n := by
  have := len_le_sum h.pos
  have := h.sum
  omega
theorem row_len {α : Type} {xs : List α} {zs : List Int} (h : SzOk zs xs.length) {i : Nat} {z : Int} (hz : zs[i]? = some z) : (rowAt xs zs i).length = z.toNat := by
  unfold rowAt
  have h1 := preS_nonneg h.pos i
  have h2 := h.pre_le (i + 1)
  rw [preS_succ hz] at h2
  rw [List.length_take, List.length_drop, getD_of hz]
  omega
/-- the rows make the whole -/
theorem rows_take {α : Type} {xs : List α} {zs : List Int} (hp : ∀ z ∈ zs, 1 ≤ z) : ∀ i, i ≤ zs.length → (List.range i).flatMap (rowAt xs zs) = xs.take (preS zs i).toNat
  | 0, _ => by rw [preS_zero]; rfl
  | i + 1, hi => by
    have hz : zs[i]? = some zs[i] := List.getElem?_eq_getElem (by omega)
    have h1 := preS_nonneg hp i
    have h2 := hp _ (List.mem_of_getElem? hz)
    rw [List.range_succ, List.flatMap_append, rows_take hp i (by omega), preS_succ hz]
    have e : (preS zs i + zs[i]).toNat = (preS zs i).toNat + zs[i].toNat := by omega
    rw [e, List.take_add, List.flatMap_cons, List.flatMap_nil, List.append_nil]
    unfold rowAt
    rw [getD_of hz]
theorem rows_all {α : Type} {xs : List α} {zs : List Int} (h : SzOk zs xs.length) : (List.range zs.length).flatMap (rowAt xs zs) = xs := by
  rw [rows_take h.pos _ (Nat.le_refl _), preS_len, h.sum]
  exact List.take_of_length_le (by omega)
theorem row_mem {α : Type} {xs : List α} {zs : List Int} {i : Nat} {x : α} (h : x ∈ rowAt xs zs i) : x ∈ xs := List.mem_of_mem_drop (List.mem_of_mem_take h)
/-- the weights of the rows -/
def sumsOf (ws : List Int) (zs : List Int) : List Int := (List.range zs.length).map fun i => (rowAt ws zs i).sum
theorem sums_len (ws zs : List Int) : (sumsOf ws zs).length = zs.length := by simp [sumsOf]
theorem sums_get {ws zs : List Int} {i : Nat} (h : i < zs.length) : (sumsOf ws zs)[i]? = some (rowAt ws zs i).sum := by
  unfold sumsOf
  rw [List.getElem?_map, List.getElem?_range h]; rfl
theorem sum_flatMap {α : Type} (f : α → List Int) : ∀ l : List α, (l.flatMap f).sum = (l.map fun i => (f i).sum).sum
  | [] => rfl
  | a :: l => by rw [List.flatMap_cons, List.sum_append, sum_flatMap f l]; rfl
theorem sums_sum {ws zs : List Int} (h : SzOk zs ws.length) : (sumsOf ws zs).sum = ws.sum := by
  unfold sumsOf
  rw [← sum_flatMap, rows_all h]
theorem row_wok {ws zs : List Int} (hw : WOk ws) (h : SzOk zs ws.length) {i : Nat} (hi : i < zs.length) : WOk (rowAt ws zs i) := by
  have hz : zs[i]? = some zs[i] := List.getElem?_eq_getElem hi
  have hl := row_len h hz
  have hp := h.pos _ (List.mem_of_getElem? hz)
  have pos : ∀ w ∈ rowAt ws zs i, 1 ≤ w := fun w hw' => hw.pos w (row_mem hw')
  have h1 := mem_le_sum (ws := sumsOf ws zs) (i := i) (w := (rowAt ws zs i).sum) (fun w hm => by
    obtain ⟨j, hj, rfl⟩ := List.mem_map.mp hm
    have hj' := List.mem_range.mp hj
    have hzj : zs[j]? = some zs[j] := List.getElem?_eq_getElem hj'
    have := len_le_sum (ws := rowAt ws zs j) fun w hw' => hw.pos w (row_mem hw')
    have := row_len h hzj
    have := h.pos _ (List.mem_of_getElem? hzj)
    omega) (sums_get hi)
  rw [sums_sum h] at h1
  refine ⟨by omega, ?_, pos, by have := hw.sum; omega⟩
  have := h.pre_le (i + 1)
  have := preS_nonneg h.pos i
  rw [preS_succ hz] at *
  have := hw.l1
  omega
theorem sums_wok {ws zs : List Int} (hw : WOk ws) (h : SzOk zs ws.length) : WOk (sumsOf ws zs) := by
  have h0 : 0 < zs.length := by
    cases zs with
    | nil => have := h.sum; have := hw.l0; simp at *; omega
    | cons _ _ => simp
  refine ⟨by rw [sums_len]; exact h0, by rw [sums_len]; have := h.len; have := hw.l1; omega, ?_, by rw [sums_sum h]; exact hw.sum⟩
  intro w hm
  obtain ⟨j, hj, rfl⟩ := List.mem_map.mp hm
  have hj' := List.mem_range.mp hj
  have := (row_wok hw h hj').sum_pos
  omega
theorem r_flatB {k : Bool} {A : Prop} (h : A) : flatD (.bl k) = true ∧ A := ⟨rfl, h⟩
/-- the boxes of rows -/
def laidAt (b : Bx) (ws zs : List Int) (dn : Bool) (i : Nat) : List Bx := splitB (splitAt_ b (sumsOf ws zs) dn i) (rowAt ws zs i) (!dn)
theorem laidAt_len (b : Bx) (ws zs : List Int) (dn : Bool) (i : Nat) : (laidAt b ws zs dn i).length = (rowAt ws zs i).length := split_len _ _ _
def laidB (b : Bx) (ws zs : List Int) (dn : Bool) : List Bx := (List.range zs.length).flatMap (laidAt b ws zs dn)
theorem laid_pre (b : Bx) {ws zs : List Int} (dn : Bool) (h : SzOk zs ws.length) {i : Nat} (hi : i ≤ zs.length) : ((List.range i).flatMap (laidAt b ws zs dn)).length = (ws.take (preS zs i).toNat).length := by
  have e : ∀ l : List Nat, (l.flatMap (laidAt b ws zs dn)).length = (l.flatMap (rowAt ws zs)).length := by
    intro l
    induction l with
    | nil => rfl
    | cons a l ih => rw [List.flatMap_cons, List.flatMap_cons, List.length_append, List.length_append, ih, laidAt_len]
  rw [e, rows_take h.pos i hi]
theorem laid_len (b : Bx) {ws zs : List Int} (dn : Bool) (h : SzOk zs ws.length) : (laidB b ws zs dn).length = ws.length := by
  unfold laidB
  rw [laid_pre b dn h (Nat.le_refl _), preS_len, h.sum]
  simp
theorem flat_more {α β : Type} (f : Nat → List α) (g : α → β) (i : Nat) : ((List.range i).flatMap f).map g ++ (f i).map g = ((List.range (i + 1)).flatMap f).map g := by
  rw [List.range_succ, List.flatMap_append, List.map_append]
  simp
theorem range_get {n i j : Nat} (h : (List.range n)[i]? = some j) : i < n ∧ i = j := by
  obtain ⟨h1, h2⟩ := List.getElem?_eq_some_iff.mp h
  rw [List.length_range] at h1
  exact ⟨h1, by simpa using h2⟩
end DL
namespace DL
open PySem PySem.Spec PyProof.Rows L2
/-- what stands in a list, data or changing -/
def lstOf (cs : Cs) : D → Option (List D)
  | .lst xs => some xs
  | .opq (.ref p) => (match look p cs with
    | some (.lst xs) => some xs
    | _ => none)
  | _ => none
theorem lstOf_m {cs : Cs} {p : Addr} {xs : List D} (h : look p cs = some (.lst xs)) : lstOf cs (.opq (.ref p)) = some xs := by
  unfold lstOf
  simp only [h]
theorem lstOf_h {cs : Cs} {p : Addr} {xs : List D} : lstOf ((p, .lst xs) :: cs) (.opq (.ref p)) = some xs := lstOf_m look_hd
section
variable {X : Cx} {W : WX} {K : PySem.W.Frag} {σ : L2.St} {H : Hp} {a b : Expr} {wa wb : DL.WE} {pos : Pos}
theorem lstOf_sq {F G0 : Hp} {cs : Cs} {x : V} {d : D} {xs : List D} (s : Sta K F G0 cs H) (r : Rep K (pur F cs H) x d) (h : lstOf cs d = some xs) : ∃ p vs, x = .ref p ∧ SqL K H p vs ∧ RepL K (pur F cs H) vs xs := by
  cases d <;> try (cases h)
  · cases r with
    | lst h r => exact ⟨_, _, rfl, ex_l pur_le h, r⟩
  · rename_i v
    cases v <;> try (cases h)
    rename_i p
    cases r
    have h' : (match look p cs with
      | some (.lst xs) => some xs
      | _ => none) = some xs := h
    split at h'
    · rename_i ys e
      cases h'
      obtain ⟨vs, e1, e2⟩ := lst_at s e
      exact ⟨p, vs, rfl, SqL.of e1, e2⟩
    · cases h'
def rCatQ (K : PySem.W.Frag) : R2 := fun x y H Q => ∃ a b xs ys, x = .ref a ∧ y = .ref b ∧ SqL K H a xs ∧ SqL K H b ys ∧ xs.length + ys.length ≤ sizeLine ∧ ∀ p, H p = none → Q (.ref p) (upd H p (.lst (xs ++ ys)))
theorem op_catQ : OpR X (binaryOp .Add) (rCatQ X.K) := by
  intro pins s σ H x y v u Q I rx ry h
  obtain ⟨l, b, xs, zs, rfl, rfl, hH, hB, hz, q⟩ := h
  cases rx
  cases ry
  obtain ⟨its, r, pl, _⟩ := I.list hH
  obtain ⟨its2, r2, pl2, _⟩ := I.list hB
  obtain ⟨⟨cls, dd, data, sl⟩, n, ho, hc, hdd, hd⟩ := pl
  obtain ⟨⟨cls2, dd2, data2, sl2⟩, n2, ho2, hc2, hdd2, hd2⟩ := pl2
  simp only at hc hd hc2 hd2
  subst hc hd hc2 hd2
  have l1 := r.length
  have l2 := r2.length
  refine concat_meets ⟨_, ho, rfl⟩ ⟨_, ho2, rfl⟩ noFill_list_add seq_list_add PySem.F.slot_list_add PySem.F.entry_list_add (PySem.F.args_list_add_2 _ _) (list_addW l b its.toArray its2.toArray n n2 dd dd2 sl sl2 (by rw [List.size_toArray, List.size_toArray]; omega)) ⟨ho, ho2, ?_⟩
  have ea : its.toArray ++ its2.toArray = (its ++ its2).toArray := by simp
  rw [ea]
  exact ⟨.ref _, _, I.lnew (t' := s.toks) (r.append r2) (by rw [List.length_append]; omega), rfl, q _ I.fresh⟩
def oCatL : DO2 := fun x y cs P => ∃ xs ys, lstOf cs x = some xs ∧ lstOf cs y = some ys ∧ xs.length + ys.length ≤ 100000 ∧ P (.lst (xs ++ ys)) cs
def oCatM : DO2 := fun x y cs P => ∃ xs ys, lstOf cs x = some xs ∧ lstOf cs y = some ys ∧ xs.length + ys.length ≤ 100000 ∧ ∀ p, p ∉ adr cs → P (.opq (.ref p)) ((p, .lst (xs ++ ys)) :: cs)
theorem adq_catL : Adq K (rCatQ K) oCatL := fun F cs H x y dx dy P Q s rx ry ho pe => by
  obtain ⟨xs, ys, e1, e2, hl, h⟩ := ho
  obtain ⟨p, vs, rfl, h1, r1⟩ := lstOf_sq s rx e1
  obtain ⟨q, us, rfl, h2, r2⟩ := lstOf_sq s ry e2
  refine ⟨_, _, _, _, rfl, rfl, h1, h2, by rw [r1.length, r2.length]; exact Nat.le_trans hl (by decide), fun p hp => ?_⟩
  obtain ⟨s2, e2⟩ := s.new (o := .lst (vs ++ us)) hp
  exact pe _ cs _ _ s2 (.lst (SqL.of e2) ((r1.append r2).mono s2.gr)) h
theorem d_catL (ha : DE X W a wa) (hb : DE X W b wb) : DE X W (.BinOp a .Add b pos) (wOp oCatL wa wb) := d_op op_catQ adq_catL ha hb
def oLenX : DOn := fun ds cs P => ∃ d xs, ds = [d] ∧ lstOf cs d = some xs ∧ P (.int (xs.length : Int)) cs
def oListX : DOn := fun ds cs P => ∃ d xs, ds = [d] ∧ (lstOf cs d = some xs ∨ d = .tup xs) ∧ P (.lst xs) cs
def oListM : DOn := fun ds cs P => ∃ d xs, ds = [d] ∧ (lstOf cs d = some xs ∨ d = .tup xs) ∧ ∀ p, p ∉ adr cs → P (.opq (.ref p)) ((p, .lst xs) :: cs)
theorem seq_inv {F G0 : Hp} {cs : Cs} {x : V} {d : D} {xs : List D} (s : Sta K F G0 cs H) (r : Rep K (pur F cs H) x d) (h : lstOf cs d = some xs ∨ d = .tup xs) : ∃ p vs, x = .ref p ∧ (SqL K H p vs ∨ SqT K H p vs) ∧ RepL K (pur F cs H) vs xs := by
  rcases h with h | rfl
  · obtain ⟨p, vs, e, h1, r1⟩ := lstOf_sq s r h
    exact ⟨p, vs, e, .inl h1, r1⟩
  · cases r with
    | tup h r => exact ⟨_, _, rfl, .inr (ex_t pur_le h), r⟩
theorem adq_listM : AdqN K (fun xs H Q => ∃ p ys, xs = [.ref p] ∧ (SqL K H p ys ∨ SqT K H p ys) ∧ ∀ l, H l = none → Q (.ref l) (upd H l (.lst ys))) oListM := fun F cs H xs ds P Q s r ho pe => by
  obtain ⟨d, ys, rfl, e, h⟩ := ho
  cases r with
  | cons r1 t =>
    cases t
    obtain ⟨p, vs, rfl, h1, r1⟩ := seq_inv s r1 e
    refine ⟨_, _, rfl, h1, fun l hl => ?_⟩
    have s2 := s.newM (m := .lst ys) (o := .lst vs) hl r1
    exact pe _ _ _ _ s2 (.opq _) (h l (s.notin hl).2)
def oTupX : DOn := fun ds cs P => ∃ d xs, ds = [d] ∧ (lstOf cs d = some xs ∨ d = .tup xs) ∧ P (.tup xs) cs
def oAny : DOn := fun ds cs P => ∃ (d : D) (bs : List Bool), ds = [d] ∧ lstOf cs d = some (bs.map D.bl) ∧ P (.bl (bs.any id)) cs
theorem adq_any : AdqN K (rAny K) oAny := fun F cs H xs ds P Q s r ho pe => by
  obtain ⟨d, bs, rfl, e, h⟩ := ho
  cases r with
  | cons r1 t =>
    cases t
    obtain ⟨p, vs, rfl, h1, r1⟩ := lstOf_sq s r1 e
    have e2 := RepL.bls bs r1
    subst e2
    exact ⟨_, bs, rfl, h1, pe H cs _ _ s (.bl _) h⟩
def oMin2 : DOn := fun ds cs P => ∃ i j, ds = [.int i, .int j] ∧ P (.int (if j < i then j else i)) cs
theorem adq_min2 : AdqN K (fun xs H Q => ∃ i j, xs = [.int i, .int j] ∧ Q (.int (if j < i then j else i)) H) oMin2 := fun F cs H xs ds P Q s r ho pe => by
  obtain ⟨i, j, rfl, h⟩ := ho
  cases r with
  | cons r1 t =>
    cases t with
    | cons r2 t => cases t; cases r1; cases r2; exact ⟨_, _, rfl, pe H cs _ _ s (.int _) h⟩
def oMax2 : DOn := fun ds cs P => ∃ i j, ds = [.int i, .int j] ∧ P (.int (if i < j then j else i)) cs
end
section
variable {cs : Cs} {P : DP} {d e : D} {xs ys : List D} {p : Addr}
theorem r_catLL (hl : xs.length + ys.length ≤ 100000) (h : P (.lst (xs ++ ys)) cs) : oCatL (.lst xs) (.lst ys) cs P := ⟨xs, ys, rfl, rfl, hl, h⟩
theorem r_catML (hl : xs.length + ys.length ≤ 100000) (h : ∀ p, p ∉ adr cs → P (.opq (.ref p)) ((p, .lst (xs ++ ys)) :: cs)) : oCatM (.lst xs) (.lst ys) cs P := ⟨xs, ys, rfl, rfl, hl, h⟩
theorem r_lenH (h : P (.int (xs.length : Int)) ((p, .lst xs) :: cs)) : oLenX [.opq (.ref p)] ((p, .lst xs) :: cs) P := ⟨_, xs, rfl, lstOf_h, h⟩
theorem r_lenXL (h : P (.int (xs.length : Int)) cs) : oLenX [.lst xs] cs P := ⟨_, xs, rfl, rfl, h⟩
theorem r_tupH (h : P (.tup xs) ((p, .lst xs) :: cs)) : oTupX [.opq (.ref p)] ((p, .lst xs) :: cs) P := ⟨_, xs, rfl, .inl lstOf_h, h⟩
theorem r_tupXL (h : P (.tup xs) cs) : oTupX [.lst xs] cs P := ⟨_, xs, rfl, .inl rfl, h⟩
theorem r_tupXT (h : P (.tup xs) cs) : oTupX [.tup xs] cs P := ⟨_, xs, rfl, .inr rfl, h⟩
theorem r_listXH (h : P (.lst xs) ((p, .lst xs) :: cs)) : oListX [.opq (.ref p)] ((p, .lst xs) :: cs) P := ⟨_, xs, rfl, .inl lstOf_h, h⟩
theorem r_listXL (h : P (.lst xs) cs) : oListX [.lst xs] cs P := ⟨_, xs, rfl, .inl rfl, h⟩
theorem r_listXT (h : P (.lst xs) cs) : oListX [.tup xs] cs P := ⟨_, xs, rfl, .inr rfl, h⟩
theorem r_listML (h : ∀ p, p ∉ adr cs → P (.opq (.ref p)) ((p, .lst xs) :: cs)) : oListM [.lst xs] cs P := ⟨_, xs, rfl, .inl rfl, h⟩
theorem r_listMT (h : ∀ p, p ∉ adr cs → P (.opq (.ref p)) ((p, .lst xs) :: cs)) : oListM [.tup xs] cs P := ⟨_, xs, rfl, .inr rfl, h⟩
theorem r_min2 {i j : Int} (h : P (.int (if j < i then j else i)) cs) : oMin2 [.int i, .int j] cs P := ⟨_, _, rfl, h⟩
theorem r_max2 {i j : Int} (h : P (.int (if i < j then j else i)) cs) : oMax2 [.int i, .int j] cs P := ⟨_, _, rfl, h⟩
theorem r_sumL {ns : List Int} (h : P (.int ns.sum) cs) : oSumA [.lst (ns.map D.int)] cs P := ⟨ns, .inl rfl, h⟩
theorem r_sumT {ns : List Int} (h : P (.int ns.sum) cs) : oSumA [.tup (ns.map D.int)] cs P := ⟨ns, .inr rfl, h⟩
end
section
variable {X : Cx} {W : WX} {K : PySem.W.Frag} {σ : L2.St} {H : Hp} {a e : Expr} {wa : DL.WE} {w : WA} {cpos apos : Pos}
def oClear : DMt := fun x ds cs P => ∃ p xs, x = .opq (.ref p) ∧ ds = [] ∧ look p cs = some (.lst xs) ∧ P .non (put p (.lst []) cs)
theorem r_clearH {cs : Cs} {P : DP} {p : Addr} {xs : List D} (h : P .non ((p, .lst []) :: cs)) : oClear (.opq (.ref p)) [] ((p, .lst xs) :: cs) P := ⟨p, xs, rfl, rfl, look_hd, by rw [put_hd]; exact h⟩
end
end DL
namespace DL
open PySem PySem.Spec PyProof.Rows L2
theorem liesR_iff {l t w h x y : Rat} : liesR l t w h x y = true ↔ (l ≤ x ∧ x < l + w) ∧ (t ≤ y ∧ y < t + h) := by
  unfold liesR
  simp only [Bool.and_eq_true, Bool.not_eq_true', decide_eq_false_iff_not, decide_eq_true_eq, Rat.not_lt]
  exact ⟨fun ⟨a, b, c, d⟩ => ⟨⟨a, b⟩, c, d⟩, fun ⟨⟨a, b⟩, c, d⟩ => ⟨a, b, c, d⟩⟩
theorem edge_le {a b : Rat} (hb : 0 < b) {ws : List Int} (h : WOk ws) {i j : Nat} (hij : i ≤ j) : edgeAt a b ws i ≤ edgeAt a b ws j := by
  induction j with
  | zero => rw [show i = 0 by omega]; exact Rat.le_refl
  | succ j ih =>
    by_cases e : i = j + 1
    · rw [e]; exact Rat.le_refl
    · exact Rat.le_trans (ih (by omega)) (edge_mono hb h j)
theorem split_sub {b : Bx} {ws : List Int} (hp : b.Pos) (hw : WOk ws) (dn : Bool) {i : Nat} (hi : i < ws.length) {x y : Rat} (h : (splitAt_ b ws dn i).lies x y = true) : b.lies x y = true := by
  have ew : ws[i]? = some ws[i] := List.getElem?_eq_getElem hi
  cases dn with
  | true =>
    rw [splitAt_down ew] at h
    have h := liesR_iff.mp h
    rw [edge_step _ _ hw ew] at h
    refine liesR_iff.mpr ⟨h.1, Rat.le_trans ?_ h.2.1, ltleR h.2.2 ?_⟩
    · have := edge_le (a := b.t) hp.h hw (Nat.zero_le i); rwa [edge_zero] at this
    · have := edge_le (a := b.t) hp.h hw (show i + 1 ≤ ws.length from hi); rwa [edge_len _ _ hw] at this
  | false =>
    rw [splitAt_across ew] at h
    have h := liesR_iff.mp h
    rw [edge_step _ _ hw ew] at h
    refine liesR_iff.mpr ⟨⟨Rat.le_trans ?_ h.1.1, ltleR h.1.2 ?_⟩, h.2⟩
    · have := edge_le (a := b.l) hp.w hw (Nat.zero_le i); rwa [edge_zero] at this
    · have := edge_le (a := b.l) hp.w hw (show i + 1 ≤ ws.length from hi); rwa [edge_len _ _ hw] at this
theorem split_cnt {b : Bx} {ws : List Int} (hp : b.Pos) (hw : WOk ws) (dn : Bool) (x y : Rat) : (splitB b ws dn).countP (fun c => c.lies x y) = if b.lies x y = true then 1 else 0 := by
  by_cases h : b.lies x y = true
  · rw [if_pos h]
    have h := liesR_iff.mp h
    exact split_one hp hw dn h.1.1 h.1.2 h.2.1 h.2.2
  · rw [if_neg h]
    refine List.countP_eq_zero.mpr fun c hc hl => h ?_
    unfold splitB at hc
    obtain ⟨i, hi, rfl⟩ := List.mem_map.mp hc
    exact split_sub hp hw dn (List.mem_range.mp hi) hl
theorem countP_flatMap {α β : Type} (p : β → Bool) (f : α → List β) : ∀ l : List α, (l.flatMap f).countP p = (l.map fun a => (f a).countP p).sum
  | [] => rfl
  | a :: l => by rw [List.flatMap_cons, List.countP_append, countP_flatMap p f l, List.map_cons, List.sum_cons]
theorem sum_ite {α : Type} (q : α → Bool) : ∀ l : List α, (l.map fun a => if q a = true then 1 else 0).sum = l.countP q
  | [] => rfl
  | a :: l => by
    rw [List.map_cons, List.sum_cons, sum_ite q l, List.countP_cons]
    omega
theorem laid_cnt {b : Bx} {ws zs : List Int} (hp : b.Pos) (hw : WOk ws) (hz : SzOk zs ws.length) (dn : Bool) (x y : Rat) : (laidB b ws zs dn).countP (fun c => c.lies x y) = if b.lies x y = true then 1 else 0 := by
  have hs := sums_wok hw hz
  unfold laidB
  rw [countP_flatMap, ← split_cnt hp hs dn x y]
  unfold splitB
  rw [List.countP_map, ← sum_ite, sums_len]
  congr 1
  refine List.map_congr_left fun i hi => ?_
  have hi := List.mem_range.mp hi
  have ei : (sumsOf ws zs)[i]? = some _ := sums_get hi
  have := split_cnt (splitAt_pos hp hs dn ei) (row_wok hw hz hi) (!dn) x y
  unfold laidAt
  rw [this]
  rfl
theorem laid_mem {b : Bx} {ws zs : List Int} (hp : b.Pos) (hw : WOk ws) (hz : SzOk zs ws.length) (dn : Bool) {n : Nat} (hs : b.Sz n) {c : Bx} (h : c ∈ laidB b ws zs dn) : c.Pos ∧ c.Sz ((n + n + 24) + (n + n + 24) + 24) ∧ b.lies c.l c.t = true := by
  have hs' := sums_wok hw hz
  unfold laidB at h
  obtain ⟨i, hi, h⟩ := List.mem_flatMap.mp h
  have hi := List.mem_range.mp hi
  have ei : (sumsOf ws zs)[i]? = some _ := sums_get hi
  unfold laidAt splitB at h
  obtain ⟨j, hj, rfl⟩ := List.mem_map.mp h
  have hj := List.mem_range.mp hj
  have ew := List.getElem?_eq_getElem hj
  have p1 := splitAt_pos hp hs' dn ei
  have rw_ := row_wok hw hz hi
  have p2 := splitAt_pos p1 rw_ (!dn) ew
  refine ⟨p2, splitAt_sz (splitAt_sz hs hs' dn (by rw [sums_len]; exact hi)) rw_ _ hj, ?_⟩
  refine split_sub hp hs' dn (by rw [sums_len]; exact hi) (split_sub p1 rw_ (!dn) hj ?_)
  exact liesR_lt p2.w p2.h
theorem flat_congr {α β : Type} {f g : α → List β} : ∀ {l : List α}, (∀ a ∈ l, f a = g a) → l.flatMap f = l.flatMap g
  | [], _ => rfl
  | a :: l, h => by rw [List.flatMap_cons, List.flatMap_cons, h a (List.mem_cons_self ..), flat_congr fun b hb => h b (List.mem_cons_of_mem _ hb)]
end DL
namespace DL
open PySem PySem.Spec PyProof.Rows L2
section
variable {X : Cx} {W : WX} {K : PySem.W.Frag} {σ : L2.St} {H : Hp} {pos : Pos}
def gStar (g1 g2 : WG) : WG := fun d ρ k => match d with
  | .lst (x :: xs) => g1 x ρ fun ρ1 => g2 (.lst xs) ρ1 k
  | _ => False
theorem r_gStar {g1 g2 : WG} {x : D} {xs : List D} {ρ : DL.Env} {k : DL.Env → Prop} (h : g1 x ρ fun ρ1 => g2 (.lst xs) ρ1 k) : gStar g1 g2 (.lst (x :: xs)) ρ k := h
def oSlAny : D → Option Int → Option Int → Cs → DP → Prop := fun x lo hi cs P => match x with
  | .lst xs => P (.lst (DL.cutD xs lo hi)) cs
  | .tup xs => P (.tup (DL.cutD xs lo hi)) cs
  | _ => False
theorem r_slAL {xs : List D} {lo hi : Option Int} {cs : Cs} {P : DP} (h : P (.lst (DL.cutD xs lo hi)) cs) : oSlAny (.lst xs) lo hi cs P := h
theorem r_slAT {xs : List D} {lo hi : Option Int} {cs : Cs} {P : DP} (h : P (.tup (DL.cutD xs lo hi)) cs) : oSlAny (.tup xs) lo hi cs P := h
def wGone (we : DL.WE) : DL.WE := fun ρ cs P Z => we ρ cs (fun d cs1 => ∃ p, P d (del p cs1)) Z
theorem r_gone {we : DL.WE} {ρ : DL.Env} {cs : Cs} {P : DP} {Z : XZ} (h : we ρ cs (fun d cs1 => ∃ p, P d (del p cs1)) Z) : wGone we ρ cs P Z := h
theorem r_goneH {p : Addr} {m : MO} {cs : Cs} {P : DP} {d : D} (h : P d cs) : ∃ p', P d (del p' ((p, m) :: cs)) := ⟨p, by rw [del_hd]; exact h⟩
end
end DL
namespace DL
open PySem PySem.Spec PyProof.Rows L2
def mxR (m y : Rat) : Rat := if m < y then y else m
def maxL : List Rat → Rat
  | [] => 0
  | x :: xs => xs.foldl mxR x
structure IsMax (m : Rat) (l : List Rat) : Prop where
  mem : m ∈ l
  le : ∀ y ∈ l, y ≤ m
theorem IsMax.uniq {m m' : Rat} {l : List Rat} (h : IsMax m l) (h' : IsMax m' l) : m = m' := Rat.le_antisymm (h'.le m h.mem) (h.le m' h'.mem)
theorem atD_zero (x : D) (xs : List D) : atD (x :: xs) 0 = some x := atI_nat (j := 0) rfl
theorem r_ix0 {x : D} {xs : List D} {cs : Cs} {P : DP} (h : P x cs) : oIx (.lst (x :: xs)) (.int 0) cs P := r_ixL (atD_zero x xs) h
theorem r_ix0T {x : D} {xs : List D} {cs : Cs} {P : DP} (h : P x cs) : oIx (.tup (x :: xs)) (.int 0) cs P := r_ixT (atD_zero x xs) h
theorem mxR_or (m y : Rat) : mxR m y = m ∨ mxR m y = y := by
  unfold mxR
  split
  · exact .inr rfl
  · exact .inl rfl
def rsh (b : Bx) (dn : Bool) (S W w : Int) : Rat := shapeR ((if dn then b.h else b.w) * Rat.divInt S W) ((if dn then b.w else b.h) * Rat.divInt w S)
def rowShape (b : Bx) (dn : Bool) (ws : List Int) (i n : Nat) : Rat := maxL (((ws.drop i).take n).map (rsh b dn ((ws.drop i).take n).sum ws.sum))
theorem SzOk.at_ {zs : List Int} {n : Nat} (h : SzOk zs n) {i : Nat} {z : Int} (hz : zs[i]? = some z) : 1 ≤ z.toNat ∧ (preS zs i).toNat + z.toNat ≤ n ∧ 1 ≤ z ∧ 0 ≤ preS zs i ∧ preS zs i + z ≤ n := by
  have h1 := preS_nonneg h.pos i
  have h2 := h.pre_le (i + 1)
  have h3 := h.pos z (List.mem_of_getElem? hz)
  rw [preS_succ hz] at h2
  omega
theorem SzOk.ne {zs : List Int} {n : Nat} (h : SzOk zs n) (hn : 1 ≤ n) : 0 < zs.length := by
  cases zs with
  | nil => have := h.sum; simp at this; omega
  | cons _ _ => simp
end DL
namespace DL
open PySem PySem.Spec PyProof.Rows L2
def absR (x : Rat) : Rat := if x < 0 then -x else x
theorem Sz.absR {n : Nat} {x : Rat} (h : Sz n x) : Sz n (absR x) := by
  unfold DL.absR
  split
  · exact h.neg
  · exact h
end DL
namespace DL
open PySem PySem.Spec PyProof.Rows L2
theorem ref_inj {o : Option Value} {a b : Addr} (h1 : o = some (.ref a)) (h2 : o = some (.ref b)) : a = b := by
  rw [h1] at h2
  cases h2
  rfl
def sp_law : DSp := fun ds cs P _ => ∃ ns : List Int, ds = [.lst (ns.map D.int)] ∧ ns.length ≤ 63 ∧ cs = [] ∧ ∀ cs', P (.bl true) cs'
theorem calmF {P : Program} {w : World} {K : PySem.W.Frag} {mg : Str → Option Value} {base : Heap} {k : Nat} {f : Addr} {fd : FuncData} {ps : List Str} {sp : Sp} (h : FnOk P w K mg base (L2.CX P w) k f fd ps sp) :
    FnOk P w K mg base CX0 k f fd ps (fun vs H Q _ => sp vs H Q fun _ _ _ => False) := by
  refine ⟨fun vs H Q E q => h.len vs H Q _ q, fun A outer s H args us vs Q E hr e0 hb r q => ?_⟩
  refine codeAny_mono (h.run A outer s H args us vs Q (fun _ _ _ => False) hr e0 hb r q) fun r s' hq => ?_
  cases r with
  | error e =>
    obtain ⟨_, _, _, _, _, _, _, _, _, _, _, _, z⟩ := hq
    exact z.elim
  | ok fl => cases fl <;> exact hq
end DL
namespace DL
open PySem PySem.Spec PyProof.Rows L2
section
variable {κ : Type} [DecidableEq κ] {α : Type}
/-- what a table holds at k -/
def lk (kvs : List (κ × α)) (k : κ) : Option α := match kvs with
  | [] => none
  | p :: r => if p.1 = k then some p.2 else lk r k
/-- a table with k at v -/
def putD (kvs : List (κ × α)) (k : κ) (v : α) : List (κ × α) :=
  if (lk kvs k).isSome = true then kvs.map fun p => (p.1, if p.1 = k then v else p.2) else kvs ++ [(k, v)]
theorem look_pos {p : κ × α} {r : List (κ × α)} {k : κ} (e : p.1 = k) : lk (p :: r) k = some p.2 := by
  rw [lk, if_pos e]
theorem look_neg {p : κ × α} {r : List (κ × α)} {k : κ} (e : ¬ p.1 = k) : lk (p :: r) k = lk r k := by
  rw [lk, if_neg e]
theorem putD_new {kvs : List (κ × α)} {k : κ} (v : α) (h : lk kvs k = none) : putD kvs k v = kvs ++ [(k, v)] := by
  unfold putD
  rw [h]
  exact if_neg (fun z => by cases z)
theorem look_none_of {kvs : List (κ × α)} {k : κ} (h : ∀ p ∈ kvs, p.1 ≠ k) : lk kvs k = none := by
  induction kvs with
  | nil => rfl
  | cons p r ih => rw [look_neg (h p (List.mem_cons_self ..)), ih fun q hq => h q (List.mem_cons_of_mem _ hq)]
/-- a table made of a list: by a key that is one's own -/
theorem look_map {γ : Type} (f : γ → κ) (g : γ → α) (x : γ) : ∀ (l : List γ), x ∈ l → (∀ y ∈ l, f y = f x → y = x) → lk (l.map fun y => (f y, g y)) (f x) = some (g x)
  | [], h, _ => by cases h
  | y :: r, h, hi => by
    rw [List.map_cons]
    by_cases e : f y = f x
    · rw [look_pos (p := (f y, g y)) e, hi y (List.mem_cons_self ..) e]
    · rw [look_neg (p := (f y, g y)) e]
      refine look_map f g x r ?_ fun z hz => hi z (List.mem_cons_of_mem _ hz)
      rcases List.mem_cons.mp h with q | q
      · exact absurd (by rw [q]) e
      · exact q
end
inductive RG (K : PySem.W.Frag) (G : Hp) {κ : Type} : List (κ × V) → List (κ × D) → Prop
  | nil : RG K G [] []
  | cons {k : κ} {v : V} {vs : List (κ × V)} {d : D} {ds : List (κ × D)} : Rep K G v d → RG K G vs ds → RG K G ((k, v) :: vs) ((k, d) :: ds)
def RepQ (K : PySem.W.Frag) (G : Hp) : Option V → Option D → Prop
  | none, none => True
  | some v, some d => Rep K G v d
  | _, _ => False
section
variable {K : PySem.W.Frag} {G G' : Hp} {κ : Type} [DecidableEq κ]
theorem RepK.rg : ∀ {xs : List (Key × V)} {ds : List (Key × D)}, RepK K G xs ds → RG K G xs ds
  | _, _, .nil => .nil
  | _, _, .cons h r => .cons h r.rg
theorem RepT.rg : ∀ {xs : List (List Key × V)} {ds : List (List Key × D)}, RepT K G xs ds → RG K G xs ds
  | _, _, .nil => .nil
  | _, _, .cons h r => .cons h r.rg
theorem RG.rk {xs : List (Key × V)} {ds : List (Key × D)} (h : RG K G xs ds) : RepK K G xs ds := by
  induction h with
  | nil => exact .nil
  | cons h _ ih => exact .cons h ih
theorem RG.rt {xs : List (List Key × V)} {ds : List (List Key × D)} (h : RG K G xs ds) : RepT K G xs ds := by
  induction h with
  | nil => exact .nil
  | cons h _ ih => exact .cons h ih
theorem RG.mono (e : Ex G G') {xs : List (κ × V)} {ds : List (κ × D)} (h : RG K G xs ds) : RG K G' xs ds := by
  induction h with
  | nil => exact .nil
  | cons h _ ih => exact .cons (h.mono e) ih
theorem RG.length {xs : List (κ × V)} {ds : List (κ × D)} (h : RG K G xs ds) : xs.length = ds.length := by
  induction h with
  | nil => rfl
  | cons _ _ ih => rw [List.length_cons, List.length_cons, ih]
theorem RG.val {xs : List (κ × V)} {ds : List (κ × D)} (h : RG K G xs ds) (k : κ) : RepQ K G (valV xs k) (lk ds k) := by
  induction h with
  | nil => exact True.intro
  | @cons j v vs d ds hr _ ih =>
    by_cases e : j = k
    · rw [valV_pos (p := (j, v)) e, look_pos (p := (j, d)) e]; exact hr
    · rw [valV_neg (p := (j, v)) e, look_neg (p := (j, d)) e]; exact ih
theorem RG.app {xs ys : List (κ × V)} {ds es : List (κ × D)} (h : RG K G xs ds) (h2 : RG K G ys es) : RG K G (xs ++ ys) (ds ++ es) := by
  induction h with
  | nil => exact h2
  | cons h _ ih => exact .cons h ih
theorem RG.put {xs : List (κ × V)} {ds : List (κ × D)} (h : RG K G xs ds) (k : κ) {v : V} {d : D} (r : Rep K G v d) : RG K G (putK xs k v) (putD ds k d) := by
  have q := h.val k
  unfold putK putD
  rw [valV_any]
  have e : (valV xs k).isSome = (lk ds k).isSome := by
    revert q
    cases valV xs k <;> cases lk ds k <;> intro q <;> first | rfl | exact (show False from q).elim
  rw [e]
  by_cases a : (lk ds k).isSome = true
  · rw [if_pos a, if_pos a]
    clear q e a
    induction h with
    | nil => exact .nil
    | @cons j v' vs d' ds hr _ ih =>
      rw [List.map_cons, List.map_cons]
      by_cases z : j = k
      · have e1 : (if (j, v').1 = k then ((j, v').1, v) else (j, v')) = (j, v) := if_pos z
        have e2 : ((j, d').1, if (j, d').1 = k then d else (j, d').2) = (j, d) := by rw [if_pos z]
        rw [e1, e2]; exact .cons r ih
      · have e1 : (if (j, v').1 = k then ((j, v').1, v) else (j, v')) = (j, v') := if_neg z
        have e2 : ((j, d').1, if (j, d').1 = k then d else (j, d').2) = (j, d') := by rw [if_neg z]
        rw [e1, e2]; exact .cons hr ih
  · rw [if_neg a, if_neg a]
    exact h.app (.cons r .nil)
theorem RG.get {xs : List (κ × V)} {ds : List (κ × D)} (h : RG K G xs ds) : ∀ {i : Nat} {k : κ} {d : D}, ds[i]? = some (k, d) → ∃ v, xs[i]? = some (k, v) ∧ Rep K G v d := by
  induction h with
  | nil => intro i k d e; simp at e
  | @cons j v vs d' ds hr _ ih =>
    intro i k d e
    cases i with
    | zero =>
      simp at e
      obtain ⟨rfl, rfl⟩ := e
      exact ⟨v, rfl, hr⟩
    | succ i => simpa using ih (by simpa using e)
theorem RepQ.isSome {o : Option V} {d : Option D} (h : RepQ K G o d) : o.isSome = d.isSome := by
  cases o <;> cases d <;> first | rfl | exact (show False from h).elim
theorem RepQ.some_ {o : Option V} {d : D} (h : RepQ K G o (some d)) : ∃ v, o = some v ∧ Rep K G v d := by
  cases o with
  | none => exact (show False from h).elim
  | some v => exact ⟨v, rfl, h⟩
theorem RepQ.getD {o : Option V} {d : Option D} {v : V} {e : D} (h : RepQ K G o d) (r : Rep K G v e) : Rep K G (o.getD v) (d.getD e) := by
  cases o <;> cases d <;> first | exact r | exact h | exact (show False from h).elim
end
def kD : Key → D
  | .inl i => .int i
  | .inr x => .str x
def kOf : D → Option Key
  | .int i => some (.inl i)
  | .str x => some (.inr x)
  | _ => none
def ksOf : List D → Option (List Key)
  | [] => some []
  | d :: r => match kOf d, ksOf r with
    | some k, some ks => some (k :: ks)
    | _, _ => none
section
variable {K : PySem.W.Frag} {G : Hp}
theorem kOf_rep {v : V} {d : D} {k : Key} (h : kOf d = some k) (r : Rep K G v d) : v = kV k := by
  cases d <;> simp [kOf] at h
  · subst h; cases r; rfl
  · subst h; cases r; rfl
theorem kD_rep (k : Key) : Rep K G (kV k) (kD k) := by
  cases k with
  | inl i => exact .int i
  | inr x => exact .str x
theorem ksD_rep : ∀ (ks : List Key), RepL K G (ks.map kV) (ks.map kD)
  | [] => .nil
  | k :: r => .cons (kD_rep k) (ksD_rep r)
theorem ksOf_inv {d : D} {r : List D} {ks : List Key} (h : ksOf (d :: r) = some ks) : ∃ k q, kOf d = some k ∧ ksOf r = some q ∧ ks = k :: q := by
  simp only [ksOf] at h
  split at h
  · rename_i k q e1 e2
    cases h
    exact ⟨k, q, e1, e2, rfl⟩
  · cases h
theorem ksOf_rep : ∀ {vs : List V} {ds : List D} {ks : List Key}, ksOf ds = some ks → RepL K G vs ds → vs = ks.map kV
  | _, [], ks, h, .nil => by cases h; rfl
  | _, d :: ds, ks, h, .cons r rs => by
    obtain ⟨k, q, e1, e2, rfl⟩ := ksOf_inv h
    rw [List.map_cons, kOf_rep e1 r, ksOf_rep e2 rs]
end
abbrev DD := List (Key × D) ⊕ List (List Key × D)
def ddAt (x : D) (cs : Cs) : Option DD := match x with
  | .dic kvs => some (.inl kvs)
  | .dct kvs => some (.inr kvs)
  | .opq (.ref p) => (match look p cs with
    | some (.dic kvs) => some (.inl kvs)
    | some (.dct kvs) => some (.inr kvs)
    | _ => none)
  | _ => none
def getV (x y : D) (cs : Cs) : Option (Option D) := match ddAt x cs with
  | some (.inl kvs) => (kOf y).map fun k => lk kvs k
  | some (.inr kvs) => (match y with
    | .tup ds => (ksOf ds).map fun ks => lk kvs ks
    | _ => none)
  | none => none
/-- what the dict at a holds at the key y -/
def LookX (K : PySem.W.Frag) (H : Hp) (a : Addr) (y : V) (r : Option V) : Prop :=
  (∃ kvs k, Rd H a (.dK kvs) ∧ y = kV k ∧ r = valV kvs k) ∨ ∃ kvs ks b, Rd H a (.dT kvs) ∧ y = .ref b ∧ SqT K H b (ks.map kV) ∧ r = valV kvs ks
section
variable {K : PySem.W.Frag} {F H : Hp} {cs : Cs}
theorem dd_k {x : V} {dx : D} {kvs : List (Key × D)} (s : Sta K F (pur F cs H) cs H) (r : Rep K (pur F cs H) x dx) (h : ddAt dx cs = some (.inl kvs)) : ∃ a xs, x = .ref a ∧ Rd H a (.dK xs) ∧ RG K (pur F cs H) xs kvs := by
  unfold ddAt at h
  split at h
  · cases h
    cases r with
    | dic e q => exact ⟨_, _, rfl, .inr ⟨_, pur_le _ _ e⟩, q.rg⟩
  · cases h
  · rename_i p
    split at h
    · rename_i kvs' e
      cases h
      cases r
      obtain ⟨o, e1, q⟩ := s.look e
      cases o <;> first | exact ⟨p, _, rfl, .inl e1, RepK.rg q⟩ | exact q.elim
    · cases h
    · cases h
  · cases h
theorem dd_t {x : V} {dx : D} {kvs : List (List Key × D)} (s : Sta K F (pur F cs H) cs H) (r : Rep K (pur F cs H) x dx) (h : ddAt dx cs = some (.inr kvs)) : ∃ a xs, x = .ref a ∧ Rd H a (.dT xs) ∧ RG K (pur F cs H) xs kvs := by
  unfold ddAt at h
  split at h
  · cases h
  · cases h
    cases r with
    | dct e q => exact ⟨_, _, rfl, .inr ⟨_, pur_le _ _ e⟩, q.rg⟩
  · rename_i p
    split at h
    · cases h
    · rename_i kvs' e
      cases h
      cases r
      obtain ⟨o, e1, q⟩ := s.look e
      cases o <;> first | exact ⟨p, _, rfl, .inl e1, RepT.rg q⟩ | exact q.elim
    · cases h
  · cases h
theorem getV_ok {x y : V} {dx dy : D} {o : Option D} (s : Sta K F (pur F cs H) cs H) (rx : Rep K (pur F cs H) x dx) (ry : Rep K (pur F cs H) y dy) (h : getV dx dy cs = some o) :
    ∃ a r, x = .ref a ∧ LookX K H a y r ∧ RepQ K (pur F cs H) r o := by
  unfold getV at h
  split at h
  · rename_i kvs e
    obtain ⟨a, xs, rfl, h1, h2⟩ := dd_k s rx e
    obtain ⟨k, hk, rfl⟩ := Option.map_eq_some_iff.mp h
    exact ⟨a, _, rfl, .inl ⟨xs, k, h1, kOf_rep hk ry, rfl⟩, h2.val k⟩
  · rename_i kvs e
    obtain ⟨a, xs, rfl, h1, h2⟩ := dd_t s rx e
    split at h
    · rename_i ds
      obtain ⟨ks, hk, rfl⟩ := Option.map_eq_some_iff.mp h
      cases ry with
      | tup q r =>
        refine ⟨a, _, rfl, .inr ⟨xs, ks, _, h1, rfl, ?_, rfl⟩, h2.val ks⟩
        rw [← ksOf_rep hk r]
        exact ex_t pur_le q
    · cases h
  · cases h
end
section
variable {X : Cx} {pins : List (Addr × Obj)} {σ : L2.St} {H : Hp} {s : Shared} {a b : Addr} {y v z : V} {u r : Value} {o : Option V} {A : Around} {E : Value → Shared → Prop}
theorem tup_key (I : Inv X pins σ H s) {ks : List Key} (h : SqT X.K H b (ks.map kV)) : (tupleKind (mixKind X.prog X.w)).is s.heap ks b := by
  obtain ⟨its, rv, ⟨ob, h1, h2, n, h3⟩, _⟩ := I.tuple h
  exact ⟨ob, its.toArray, n, h1, h2, h3, by simpa using items_are rv⟩
theorem lookX_isD (g : LookX X.K H a y o) : IsD H a := by
  rcases g with ⟨kvs, k, e, _⟩ | ⟨kvs, k, b, e, _⟩
  · exact .inl ⟨kvs, e⟩
  · exact .inr ⟨kvs, e⟩
theorem x_getItem {Q : Value → Shared → Prop} (hu : A.units + 1 < cLine) (I : Inv X pins σ H s) (g : LookX X.K H a y (some v)) (ry : RelV y u) (h : ∀ w' s', Inv X pins σ H s' → RelV v w' → Q w' s') :
    wpAny (model X.prog X.w) A (getItem (.ref a) u) Q E s := by
  rcases g with g | ⟨kvs, k, b, e, rfl, eb, l⟩
  · exact d_getItem hu I (.inl g) ry h
  · cases (show u = Value.ref b from ry)
    obtain ⟨_, hd, xs, rel, dd⟩ := dt_rd I.hok e
    obtain ⟨w1, hw, r1⟩ := RelO.some_of (v := v) (o := (atKey xs k).map (·.2)) (by rw [l]; exact rel.val k)
    obtain ⟨p, hp, rfl⟩ := Option.map_eq_some_iff.mp hw
    exact wpAny_getItem_heap (tupleKind_room_in1 hu) (tup_key I eb) dd hp (h _ _ (I.tok _) r1)
theorem x_in {Q : Value → Shared → Prop} (hu : A.units + 1 < cLine) (I : Inv X pins σ H s) (g : LookX X.K H a y o) (ry : RelV y u) (h : ∀ s', Inv X pins σ H s' → Q (.bool o.isSome) s') :
    wpAny (model X.prog X.w) A (compareOp .In u (.ref a)) Q E s := by
  rcases g with g | ⟨kvs, k, b, e, rfl, eb, l⟩
  · exact L2.d_in hu I (.inl g) ry h
  · cases (show u = Value.ref b from ry)
    obtain ⟨_, hd, xs, rel, dd⟩ := dt_rd I.hok e
    have q := (rel.val k).isSome_eq
    rw [Option.isSome_map, ← l] at q
    refine wpAny_in_heap (tupleKind_room_in1 hu) (tup_key I eb) hd dd ?_
    rw [← q]
    exact h _ (I.tok _)
end
def rDGet (K : PySem.W.Frag) : R2 := fun x y H Q => ∃ a v, x = .ref a ∧ LookX K H a y (some v) ∧ Q v H
def rDIn (K : PySem.W.Frag) : R2 := fun y x H Q => ∃ a o, x = .ref a ∧ LookX K H a y o ∧ Q (.bl o.isSome) H
def oGetD : DO2 := fun x y cs P => ∃ d, getV x y cs = some (some d) ∧ P d cs
def oInD : DO2 := fun y x cs P => ∃ o, getV x y cs = some o ∧ P (.bl o.isSome) cs
def oNotInD : DO2 := fun y x cs P => ∃ o, getV x y cs = some o ∧ P (.bl (!o.isSome)) cs
section
variable {X : Cx} {W : WX} {K : PySem.W.Frag} {σ : L2.St} {H : Hp} {a b c e : Expr} {wa wb wc we : DL.WE} {pos : Pos}
theorem adq_getD : Adq K (rDGet K) oGetD := fun F cs H x y dx dy P Q s rx ry ho pe => by
  obtain ⟨d, h1, h2⟩ := ho
  obtain ⟨p, r, rfl, h3, h4⟩ := getV_ok s rx ry h1
  obtain ⟨v, rfl, h5⟩ := h4.some_
  exact ⟨p, v, rfl, h3, pe H cs _ _ s h5 h2⟩
theorem adq_inD : Adq K (rDIn K) oInD := fun F cs H x y dx dy P Q s rx ry ho pe => by
  obtain ⟨d, h1, h2⟩ := ho
  obtain ⟨p, r, rfl, h3, h4⟩ := getV_ok s ry rx h1
  exact ⟨p, r, rfl, h3, pe H cs _ _ s (by rw [h4.isSome]; exact .bl _) h2⟩
theorem pe_getX {ta tb : TE} (hu : X.A.units + 64 < cLine) (ho : PE X a ta) (hi : PE X b tb) (hs : NoSl b) : PE X (.Subscript a b pos) (tOp (rDGet X.K) ta tb) := by
  refine ⟨fun pins s σ H Q I h => ?_⟩
  refine subD_of PySem.F.slot_dict_getitem.lookup hs (thn (ho.run pins s σ H _ I h) fun u s1 ⟨x, H1, I1, rx, q1⟩ => thn (hi.run pins s1 σ H1 _ I1 q1) fun iv s2 ⟨y, H2, I2, ry, p, v, ex, g, q2⟩ => ?_)
  subst ex
  obtain rfl : u = Value.ref p := rx
  exact ⟨(isD_at I2 (lookX_isD g)).1, x_getItem (by omega) I2 g ry fun w' s3 I3 rw' => ⟨v, H2, I3, rw', q2⟩⟩
theorem op_inX (hu : X.A.units + 64 < cLine) : OpR X (compareOp .In) (rDIn X.K) := by
  intro pins s σ H x y v u Q I rx ry h
  obtain ⟨p, o, rfl, g, q⟩ := h
  obtain rfl : u = Value.ref p := ry
  exact x_in (by omega) I g rx fun s3 I3 => ⟨.bl o.isSome, H, I3, rfl, q⟩
theorem d_getD (hu : X.A.units + 64 < cLine) (ha : DE X W a wa) (hb : DE X W b wb) (hs : NoSl b := by intro _ _; rfl) : DE X W (.Subscript a b pos) (wOp oGetD wa wb) := PE.imp (pe_getX hu ha hb hs) fun _ _ _ h => bin_ok adq_getD h
theorem d_inD (hu : X.A.units + 64 < cLine) (ha : DE X W a wa) (hb : DE X W b wb) (hm : behindInMarks .In b = false := by rfl) : DE X W (.Compare a [.In] [b] pos) (wOp oInD wa wb) := d_cmp (op_inX hu) adq_inD ha hb hm
def wNewK : DL.WE := fun _ cs P _ => ∀ p, p ∉ adr cs → P (.opq (.ref p)) ((p, .dic []) :: cs)
def wNewT : DL.WE := fun _ cs P _ => ∀ p, p ∉ adr cs → P (.opq (.ref p)) ((p, .dct []) :: cs)
/-- {k: v}, the key an int or a text -/
def wOneK (wk wv : DL.WE) : DL.WE := fun ρ cs P Z => ∀ p, p ∉ adr cs → wk ρ ((p, .dic []) :: cs) (fun k cs1 => wv ρ cs1 (fun v cs2 => ∃ kk, kOf k = some kk ∧ look p cs2 = some (.dic []) ∧ P (.opq (.ref p)) (put p (.dic [(kk, v)]) cs2)) Z) Z
theorem dic_at {F G0 : Hp} {cs : Cs} {p : Addr} {ds : List (Key × D)} (s : Sta K F G0 cs H) (h : look p cs = some (.dic ds)) : ∃ vs, H p = some (.dK vs) ∧ RG K (pur F cs H) vs ds := by
  obtain ⟨o, e, q⟩ := s.look h
  cases o <;> first | exact ⟨_, e, RepK.rg q⟩ | exact q.elim
theorem dct_at {F G0 : Hp} {cs : Cs} {p : Addr} {ds : List (List Key × D)} (s : Sta K F G0 cs H) (h : look p cs = some (.dct ds)) : ∃ vs, H p = some (.dT vs) ∧ RG K (pur F cs H) vs ds := by
  obtain ⟨o, e, q⟩ := s.look h
  cases o <;> first | exact ⟨_, e, RepT.rg q⟩ | exact q.elim
theorem pe_keepLock {t : TE} (h : PE X e t) : PE X e (fun σ H Q => t σ H fun v H' => ∃ d u, v = .ref d ∧ H' d = some u ∧ Mut (some u) ∧ ∀ od, Q v (upd H' d (.frz od u))) := by
  refine ⟨fun pins s σ H Q I hw => ?_⟩
  refine thn (h.run pins s σ _ _ I hw) fun v s1 ⟨x, H1, I1, r, d, u, ex, hd, mu, q⟩ => ?_
  obtain ⟨od, I2⟩ := I1.lock hd mu
  exact ⟨x, _, I2, r, q od⟩
theorem Sta.lockD {F G0 : Hp} {cs : Cs} {p : Addr} {m : MO} {u : HO} (s : Sta K F G0 cs H) (hl : DL.look p cs = some m) (hu : H p = some u) (od : Obj) :
    Sta K F G0 (del p cs) (upd H p (.frz od u)) ∧ Ex (pur F cs H) (pur F (del p cs) (upd H p (.frz od u))) ∧ pur F (del p cs) (upd H p (.frz od u)) p = some (.frz od u) := by
  obtain ⟨n1, n2⟩ := nd_del (p := p) s.nd
  have hp : p ∈ adr cs := List.mem_map.mpr ⟨(p, m), look_mem hl, rfl⟩
  have hF : F p = none := s.ap p hp
  have g : Ex (pur F cs H) (pur F (del p cs) (upd H p (.frz od u))) := fun b w e => by
    obtain ⟨e1, e2, e3⟩ := pur_of e
    have hb : b ≠ p := fun z => e3 (by rw [z]; exact hp)
    rw [pur_at e2 fun z => e3 (adr_del z), upd_ne hb]; exact e1
  refine ⟨⟨fun b w e => ?_, s.gr.trans g, n1, fun a h => s.ap a (adr_del h), fun a m' h => ?_, s.ft⟩, g, by rw [pur_at hF n2, upd_same]⟩
  · rw [upd_ne fun z => by rw [z, hF] at e; cases e]; exact s.fr b w e
  · obtain ⟨w, hw, r⟩ := s.ow a m' (mem_del h)
    refine ⟨w, ?_, r.mono g⟩
    have ha : a ∈ adr (del p cs) := List.mem_map.mpr ⟨(a, m'), h, rfl⟩
    have hap : a ≠ p := fun z => n2 (by rw [z] at ha; exact ha)
    rw [upd_ne hap]; exact hw
/-- a changing dict becomes data -/
def wLockD (we : DL.WE) : DL.WE := fun ρ cs P Z => we ρ cs (fun d cs1 => ∃ p, d = .opq (.ref p) ∧ ((∃ kvs, look p cs1 = some (.dic kvs) ∧ P (.dic kvs) (del p cs1)) ∨ ∃ kvs, look p cs1 = some (.dct kvs) ∧ P (.dct kvs) (del p cs1))) Z
theorem d_lockD (h : DE X W e we) : DE X W e (wLockD we) := PE.imp (pe_keepLock h) fun σ H Q hq => by
  obtain ⟨F, cs, ρ, P, Z, s, re, hw, pe, px⟩ := hq
  refine ⟨F, cs, ρ, _, Z, s, re, hw, fun H1 cs1 v d s1 r1 h1 => ?_, px⟩
  obtain ⟨p, rfl, ⟨kvs, hl, h2⟩ | ⟨kvs, hl, h2⟩⟩ := h1
  · cases r1
    obtain ⟨vs, e1, q1⟩ := dic_at s1 hl
    refine ⟨p, _, rfl, e1, True.intro, fun od => ?_⟩
    obtain ⟨s2, g2, e2⟩ := s1.lockD hl e1 od
    exact pe _ _ _ _ s2 (.dic e2 (q1.mono g2).rk) h2
  · cases r1
    obtain ⟨vs, e1, q1⟩ := dct_at s1 hl
    refine ⟨p, _, rfl, e1, True.intro, fun od => ?_⟩
    obtain ⟨s2, g2, e2⟩ := s1.lockD hl e1 od
    exact pe _ _ _ _ s2 (.dct e2 (q1.mono g2).rt) h2
def oSetDK : DSet := fun o i v cs Q => match o with
  | .opq (.ref p) => (match look p cs with
    | some (.dic ds) => ∃ k, kOf i = some k ∧ ds.length < 100000 ∧ Q (put p (.dic (putD ds k v)) cs)
    | _ => False)
  | _ => False
/-- d[(a, ..)] = v -/
def oSetDT (p : D) (ds : List D) (v : D) (cs : Cs) (Q : Cs → Prop) : Prop := match p with
  | .opq (.ref p) => (match look p cs with
    | some (.dct xs) => ∃ ks, ksOf ds = some ks ∧ xs.length < 100000 ∧ Q (put p (.dct (putD xs ks v)) cs)
    | _ => False)
  | _ => False
def sSetT (wv wo : DL.WE) (w : WA) : WS := fun f ρ cs => wv ρ cs (fun v cs1 => wo ρ cs1 (fun x cs2 => w ρ cs2 (fun ds cs3 => oSetDT x ds v cs3 fun cs4 => f.nx ρ cs4) (fun x cs1 => f.ex x ρ cs1)) (fun x cs1 => f.ex x ρ cs1)) (fun x cs1 => f.ex x ρ cs1)
end
section
variable {ρ : DL.Env} {cs : Cs} {P : DP} {Z : XZ} {we wv wo wi wk : DL.WE} {w : WA} {d : D} {p : Addr} {i j : Int} {x : Str} {kvs : List (Key × D)} {kts : List (List Key × D)} {R : Cs → Prop}
theorem r_getKI (h1 : lk kvs (.inl i) = some d) (h : P d cs) : oGetD (.dic kvs) (.int i) cs P := ⟨d, by simp [getV, ddAt, kOf, h1], h⟩
theorem r_getKS (h1 : lk kvs (.inr x) = some d) (h : P d cs) : oGetD (.dic kvs) (.str x) cs P := ⟨d, by simp [getV, ddAt, kOf, h1], h⟩
theorem r_getT2 (h1 : lk kts [.inl i, .inl j] = some d) (h : P d cs) : oGetD (.dct kts) (.tup [.int i, .int j]) cs P := ⟨d, by simp [getV, ddAt, kOf, ksOf, h1], h⟩
theorem r_getMI (hl : look p cs = some (.dic kvs)) (h1 : lk kvs (.inl i) = some d) (h : P d cs) : oGetD (.opq (.ref p)) (.int i) cs P := ⟨d, by simp [getV, ddAt, hl, kOf, h1], h⟩
theorem r_getMS (hl : look p cs = some (.dic kvs)) (h1 : lk kvs (.inr x) = some d) (h : P d cs) : oGetD (.opq (.ref p)) (.str x) cs P := ⟨d, by simp [getV, ddAt, hl, kOf, h1], h⟩
theorem r_getMT2 (hl : look p cs = some (.dct kts)) (h1 : lk kts [.inl i, .inl j] = some d) (h : P d cs) : oGetD (.opq (.ref p)) (.tup [.int i, .int j]) cs P := ⟨d, by simp [getV, ddAt, hl, kOf, ksOf, h1], h⟩
theorem r_inKI (h : P (.bl (lk kvs (.inl i)).isSome) cs) : oInD (.int i) (.dic kvs) cs P := ⟨_, by simp [getV, ddAt, kOf], h⟩
theorem r_inKS (h : P (.bl (lk kvs (.inr x)).isSome) cs) : oInD (.str x) (.dic kvs) cs P := ⟨_, by simp [getV, ddAt, kOf], h⟩
theorem r_inT2 (h : P (.bl (lk kts [.inl i, .inl j]).isSome) cs) : oInD (.tup [.int i, .int j]) (.dct kts) cs P := ⟨_, by simp [getV, ddAt, kOf, ksOf], h⟩
theorem r_inMI (hl : look p cs = some (.dic kvs)) (h : P (.bl (lk kvs (.inl i)).isSome) cs) : oInD (.int i) (.opq (.ref p)) cs P := ⟨_, by simp [getV, ddAt, hl, kOf], h⟩
theorem r_inMS (hl : look p cs = some (.dic kvs)) (h : P (.bl (lk kvs (.inr x)).isSome) cs) : oInD (.str x) (.opq (.ref p)) cs P := ⟨_, by simp [getV, ddAt, hl, kOf], h⟩
theorem r_notKI (h : P (.bl (!(lk kvs (.inl i)).isSome)) cs) : oNotInD (.int i) (.dic kvs) cs P := ⟨_, by simp [getV, ddAt, kOf], h⟩
theorem r_notKS (h : P (.bl (!(lk kvs (.inr x)).isSome)) cs) : oNotInD (.str x) (.dic kvs) cs P := ⟨_, by simp [getV, ddAt, kOf], h⟩
theorem r_notMI (hl : look p cs = some (.dic kvs)) (h : P (.bl (!(lk kvs (.inl i)).isSome)) cs) : oNotInD (.int i) (.opq (.ref p)) cs P := ⟨_, by simp [getV, ddAt, hl, kOf], h⟩
theorem r_notMS (hl : look p cs = some (.dic kvs)) (h : P (.bl (!(lk kvs (.inr x)).isSome)) cs) : oNotInD (.str x) (.opq (.ref p)) cs P := ⟨_, by simp [getV, ddAt, hl, kOf], h⟩
theorem r_newK (h : ∀ p, p ∉ adr cs → P (.opq (.ref p)) ((p, .dic []) :: cs)) : wNewK ρ cs P Z := h
theorem r_newT (h : ∀ p, p ∉ adr cs → P (.opq (.ref p)) ((p, .dct []) :: cs)) : wNewT ρ cs P Z := h
theorem r_oneK (h : ∀ p, p ∉ adr cs → wk ρ ((p, .dic []) :: cs) (fun k cs1 => wv ρ cs1 (fun v cs2 => ∃ kk, kOf k = some kk ∧ look p cs2 = some (.dic []) ∧ P (.opq (.ref p)) (put p (.dic [(kk, v)]) cs2)) Z) Z) : wOneK wk wv ρ cs P Z := h
theorem r_lockD (h : we ρ cs (fun d cs1 => ∃ p, d = .opq (.ref p) ∧ ((∃ kvs, look p cs1 = some (.dic kvs) ∧ P (.dic kvs) (del p cs1)) ∨ ∃ kvs, look p cs1 = some (.dct kvs) ∧ P (.dct kvs) (del p cs1))) Z) : wLockD we ρ cs P Z := h
theorem r_setKI (hz : kvs.length < 100000) (h : R ((p, .dic (putD kvs (.inl i) d)) :: cs)) : oSetDK (.opq (.ref p)) (.int i) d ((p, .dic kvs) :: cs) R := by
  unfold oSetDK; simp only [look, if_true]; exact ⟨.inl i, rfl, hz, by rw [put_hd]; exact h⟩
theorem r_setKS (hz : kvs.length < 100000) (h : R ((p, .dic (putD kvs (.inr x) d)) :: cs)) : oSetDK (.opq (.ref p)) (.str x) d ((p, .dic kvs) :: cs) R := by
  unfold oSetDK; simp only [look, if_true]; exact ⟨.inr x, rfl, hz, by rw [put_hd]; exact h⟩
theorem r_setT2 (hz : kts.length < 100000) (h : R ((p, .dct (putD kts [.inl i, .inl j] d)) :: cs)) : oSetDT (.opq (.ref p)) [.int i, .int j] d ((p, .dct kts) :: cs) R := by
  unfold oSetDT; simp only [look, if_true]; exact ⟨[.inl i, .inl j], rfl, hz, by rw [put_hd]; exact h⟩
section
variable {nx bk ct : DL.Env → Cs → Prop} {rt : D → Cs → Prop} {ex : Exn → DL.Env → Cs → Prop}
theorem q_setDK (h : wv ρ cs (fun v cs1 => wo ρ cs1 (fun x cs2 => wi ρ cs2 (fun i cs3 => oSetDK x i v cs3 fun cs4 => nx ρ cs4) (fun x cs1 => ex x ρ cs1)) (fun x cs1 => ex x ρ cs1)) (fun x cs1 => ex x ρ cs1)) : sSetIx wv wo wi oSetDK ⟨nx, rt, ex, bk, ct⟩ ρ cs := h
theorem q_setDT (h : wv ρ cs (fun v cs1 => wo ρ cs1 (fun x cs2 => w ρ cs2 (fun ds cs3 => oSetDT x ds v cs3 fun cs4 => nx ρ cs4) (fun x cs1 => ex x ρ cs1)) (fun x cs1 => ex x ρ cs1)) (fun x cs1 => ex x ρ cs1)) : sSetT wv wo w ⟨nx, rt, ex, bk, ct⟩ ρ cs := h
end
end
section
variable {ρ : DL.Env} {cs : Cs} {Z : XZ} {wa wb : DL.WE}
theorem r_rg2 {R : List D → Cs → Prop} (h : wa ρ cs (fun x cs1 => wb ρ cs1 (fun y cs2 => match x, y with | .int i, .int j => (-(2 ^ 62) ≤ i ∧ i < 2 ^ 62 ∧ -(2 ^ 62) ≤ j ∧ j < 2 ^ 62) ∧ R (rngD i (j - i).toNat) cs2 | _, _ => False) Z) Z) : iRg2 (wCons wa (wCons wb wNil)) ρ cs R Z := by
  unfold iRg2 wCons wNil
  have e : (fun (x : D) (cs1 : Cs) => wb ρ cs1 (fun (y : D) (cs2 : Cs) => (match [x, y] with | [D.int i, D.int j] => (-(2 ^ 62) ≤ i ∧ i < 2 ^ 62 ∧ -(2 ^ 62) ≤ j ∧ j < 2 ^ 62) ∧ R (rngD i (j - i).toNat) cs2 | _ => False)) Z)
      = fun (x : D) (cs1 : Cs) => wb ρ cs1 (fun y cs2 => match x, y with | .int i, .int j => (-(2 ^ 62) ≤ i ∧ i < 2 ^ 62 ∧ -(2 ^ 62) ≤ j ∧ j < 2 ^ 62) ∧ R (rngD i (j - i).toNat) cs2 | _, _ => False) Z := by
    funext x cs1
    congr 1
    funext y cs2
    cases x <;> cases y <;> rfl
  rw [← e] at h
  exact h
theorem rng0 (n : Nat) : rngD 0 n = (List.range n).map fun (i : Nat) => D.int (i : Int) := by
  unfold rngD
  refine List.map_congr_left fun i _ => ?_
  rw [Int.zero_add]
theorem rng0' {i : Int} {n : Nat} (h : i.toNat = n) : rngD 0 i.toNat = (List.range n).map fun (i : Nat) => D.int (i : Int) := by rw [h, rng0]
end
end DL
namespace DL
open PySem PySem.Spec PyProof.Rows L2
section
variable {X : Cx} {W : WX} {K : PySem.W.Frag} {σ : L2.St} {H : Hp} {e : Expr} {we : DL.WE} {pos : Pos}
/-- a tuple that is tracked is data -/
theorem tup_pur {F : Hp} {cs : Cs} {q : Addr} {ys : List V} {G0 : Hp} (s : Sta K F G0 cs H) (h : H q = some (.tup ys)) : pur F cs H q = some (.tup ys) := by
  have hF : F q = none := by
    cases e : F q with
    | none => rfl
    | some o =>
      have := s.fr q o e
      rw [h] at this
      cases this
      exact absurd e (s.ft q ys)
  rw [pur_at hF fun z => ?_]
  · exact h
  · obtain ⟨⟨a, m⟩, hm, ea⟩ := List.mem_map.mp z
    obtain ⟨u, hu, r⟩ := s.ow a m hm
    have ea' : a = q := ea
    rw [ea', h] at hu
    cases hu
    cases m <;> exact r
theorem yi_keysK {G : Hp} {a : Addr} {o : Obj} {xs : List (Key × V)} (h : G a = some (.frz o (.dK xs))) : YI K (Itk a o xs) G (xs.map fun p => kD p.1) where
  go := fun i d e F cs H s => by
    have z := (List.getElem?_eq_some_iff.mp e).1
    rw [List.length_map] at z
    exact ⟨pur_le _ _ (s.gr _ _ h), z⟩
  yld := fun i d e F cs H x H' s hy => by
    obtain ⟨rfl, k, v, e1, rfl⟩ := hy
    rw [List.getElem?_map, e1] at e
    cases e
    exact ⟨s.self, kD_rep k⟩
  stop := fun F cs H s => ⟨pur_le _ _ (s.gr _ _ h), by rw [List.length_map]; exact Nat.le_refl _⟩
theorem yi_keysT {G : Hp} {a : Addr} {o : Obj} {xs : List (List Key × V)} (h : G a = some (.frz o (.dT xs))) : YI K (Itkt a o xs) G (xs.map fun p => D.tup (p.1.map kD)) where
  go := fun i d e F cs H s => by
    have z := (List.getElem?_eq_some_iff.mp e).1
    rw [List.length_map] at z
    exact ⟨pur_le _ _ (s.gr _ _ h), z⟩
  yld := fun i d e F cs H x H' s hy => by
    obtain ⟨rfl, k, v, q, e1, rfl, e2⟩ := hy
    rw [List.getElem?_map, e1] at e
    cases e
    exact ⟨s.self, .tup (SqT.of (tup_pur s e2)) (ksD_rep k)⟩
  stop := fun F cs H s => ⟨pur_le _ _ (s.gr _ _ h), by rw [List.length_map]; exact Nat.le_refl _⟩
def iKeysD (we : DL.WE) : WI := fun ρ cs P Z => we ρ cs (fun d cs1 => match d with
  | .dic kvs => P (kvs.map fun p => kD p.1) cs1
  | .dct kvs => P (kvs.map fun p => D.tup (p.1.map kD)) cs1
  | _ => False) Z
theorem keys_eq {κ β : Type} {G : Hp} {xs : List (κ × V)} {ds : List (κ × D)} (f : κ → β) (h : RG K G xs ds) : (xs.map fun p => f p.1) = ds.map fun p => f p.1 := by
  induction h with
  | nil => rfl
  | cons _ _ ih => rw [List.map_cons, List.map_cons, ih]
theorem di_keys {tg : Expr} (h : DE X W e we) : DI X W tg e (iKeysD we) := PI.imp (pi_keys h) fun σ H R hq => by
  obtain ⟨F, cs, ρ, P, Z, s, re, hw, pe, px⟩ := hq
  refine ⟨F, cs, ρ, _, Z, s, re, hw, fun H1 cs1 v d s1 r1 h1 => ?_, px⟩
  cases d <;> try exact h1.elim
  · cases r1 with
    | dic e1 q =>
      refine ⟨_, _, rfl, .inl ⟨_, pur_le _ _ e1, pe H1 cs1 _ _ s1 (yi_keysK e1) ?_⟩⟩
      rw [keys_eq kD q.rg]; exact h1
  · cases r1 with
    | dct e1 q =>
      refine ⟨_, _, rfl, .inr ⟨_, pur_le _ _ e1, pe H1 cs1 _ _ s1 (yi_keysT e1) ?_⟩⟩
      rw [keys_eq (fun k => D.tup (k.map kD)) q.rg]; exact h1
def dcW (g : WG) (wt : WT) (wk wv : DL.WE) : List D → DL.Env → Cs → List (Key × D) → (List (Key × D) → Cs → Prop) → Prop
  | [], _, cs, acc, P => P acc cs
  | d :: r, ρ, cs, acc, P => g d ρ fun ρ1 => wt ρ1 cs (fun k cs1 => (k = true → wk ρ1 cs1 (fun y cs2 => wv ρ1 cs2 (fun z cs3 => ∃ kk, kOf y = some kk ∧ dcW g wt wk wv r ρ cs3 (putD acc kk z) P) Z0) Z0) ∧ (k = false → dcW g wt wk wv r ρ cs1 acc P)) Z0
def wDcR (wi : WI) (g : WG) (wt : WT) (wk wv : DL.WE) (vs : List Nat) (R : DP → List (Key × D) → Cs → Prop) : DL.WE := fun ρ cs P Z => wi ρ cs (fun xs cs1 => xs.length ≤ 100000 ∧ dcW g wt wk wv xs (wipeD ρ vs) cs1 [] (R P)) Z
abbrev RMK : DP → List (Key × D) → Cs → Prop := fun P ds cs2 => ∀ p, p ∉ adr cs2 → P (.opq (.ref p)) ((p, .dic ds) :: cs2)
variable {kx vx tg iter : Expr} {ifs : List Expr} {scope : Scope} {own : List (Str × Nat)} {wi : WI} {g : TG} {gd : WG} {wt : WT} {wk wv : DL.WE}
end
section
variable {X : Cx} {W : WX} {K : PySem.W.Frag} {σ : L2.St} {H : Hp} {pos : Pos}
abbrev RMT : DP → List (List Key × D) → Cs → Prop := fun P ds cs2 => ∀ p, p ∉ adr cs2 → P (.opq (.ref p)) ((p, .dct ds) :: cs2)
def dtW (g : WG) (wt : WT) (w : WA) (wv : DL.WE) : List D → DL.Env → Cs → List (List Key × D) → (List (List Key × D) → Cs → Prop) → Prop
  | [], _, cs, acc, P => P acc cs
  | d :: r, ρ, cs, acc, P => g d ρ fun ρ1 => wt ρ1 cs (fun k cs1 => (k = true → w ρ1 cs1 (fun ys cs2 => wv ρ1 cs2 (fun z cs3 => ∃ ks, ksOf ys = some ks ∧ dtW g wt w wv r ρ cs3 (putD acc ks z) P) Z0) Z0) ∧ (k = false → dtW g wt w wv r ρ cs1 acc P)) Z0
def wDtR (wi : WI) (g : WG) (wt : WT) (w : WA) (wv : DL.WE) (vs : List Nat) : DL.WE := fun ρ cs P Z => wi ρ cs (fun xs cs1 => xs.length ≤ 100000 ∧ dtW g wt w wv xs (wipeD ρ vs) cs1 [] (RMT P)) Z
/-- {x: v for x in d if test}, d a dict of tuples that is data -/
def dkW (i : Nat) (wt : WT) (wv : DL.WE) : List (List Key) → DL.Env → Cs → List (List Key × D) → (List (List Key × D) → Cs → Prop) → Prop
  | [], _, cs, acc, P => P acc cs
  | k :: r, ρ, cs, acc, P => wt (ρ.set i (some (.tup (k.map kD)))) cs (fun b cs1 => (b = true → wv (ρ.set i (some (.tup (k.map kD)))) cs1 (fun z cs2 => dkW i wt wv r ρ cs2 (putD acc k z) P) Z0) ∧ (b = false → dkW i wt wv r ρ cs1 acc P)) Z0
def wDkR (i : Nat) (we : DL.WE) (wt : WT) (wv : DL.WE) (vs : List Nat) : DL.WE := fun ρ cs P Z => we ρ cs (fun d cs1 => match d with
  | .dct kvs => kvs.length ≤ 100000 ∧ dkW i wt wv (kvs.map (·.1)) (wipeD ρ vs) cs1 [] (RMT P)
  | _ => False) Z
variable {kx vx tg iter : Expr} {ifs : List Expr} {scope : Scope} {own : List (Str × Nat)} {wi : WI} {g : TG} {gd : WG} {wt : WT} {w : WA} {wv we : DL.WE} {es : List Expr} {kt : Nat} {kp px : Pos} {x : Str} {i0 : Nat}
end
section
variable {ρ : DL.Env} {cs : Cs} {P : DP} {Z : XZ} {we wk wv : DL.WE} {wt : WT} {w : WA} {g : WG}
theorem r_keysI {R : List D → Cs → Prop} (h : we ρ cs (fun d cs1 => match d with
  | .dic kvs => R (kvs.map fun p => kD p.1) cs1
  | .dct kvs => R (kvs.map fun p => D.tup (p.1.map kD)) cs1
  | _ => False) Z) : iKeysD we ρ cs R Z := h
theorem r_dcK {wi : WI} {vs : List Nat} (h : wi ρ cs (fun xs cs1 => xs.length ≤ 100000 ∧ dcW g wt wk wv xs (wipeD ρ vs) cs1 [] (fun ds cs2 => ∀ p, p ∉ adr cs2 → P (.opq (.ref p)) ((p, .dic ds) :: cs2))) Z) : wDcR wi g wt wk wv vs RMK ρ cs P Z := h
theorem r_dcT {wi : WI} {vs : List Nat} (h : wi ρ cs (fun xs cs1 => xs.length ≤ 100000 ∧ dtW g wt w wv xs (wipeD ρ vs) cs1 [] (fun ds cs2 => ∀ p, p ∉ adr cs2 → P (.opq (.ref p)) ((p, .dct ds) :: cs2))) Z) : wDtR wi g wt w wv vs ρ cs P Z := h
theorem r_dcKT {i : Nat} {vs : List Nat} (h : we ρ cs (fun d cs1 => match d with
  | .dct kvs => kvs.length ≤ 100000 ∧ dkW i wt wv (kvs.map (·.1)) (wipeD ρ vs) cs1 [] (fun ds cs2 => ∀ p, p ∉ adr cs2 → P (.opq (.ref p)) ((p, .dct ds) :: cs2))
  | _ => False) Z) : wDkR i we wt wv vs ρ cs P Z := h
theorem r_ks2 {i j : Int} {z : D} {N : List Key → D → Cs → Prop} (h : N [.inl i, .inl j] z cs) : ∃ ks, ksOf [.int i, .int j] = some ks ∧ N ks z cs := ⟨_, rfl, h⟩
theorem r_kkI {i : Int} {z : D} {N : Key → D → Cs → Prop} (h : N (.inl i) z cs) : ∃ kk, kOf (.int i) = some kk ∧ N kk z cs := ⟨_, rfl, h⟩
theorem r_kkS {x : Str} {z : D} {N : Key → D → Cs → Prop} (h : N (.inr x) z cs) : ∃ kk, kOf (.str x) = some kk ∧ N kk z cs := ⟨_, rfl, h⟩
end
end DL
namespace DL
open PySem PySem.Spec PyProof.Rows L2
/-- the rows: first and end -/
def spots (n : Nat) : List (Nat × Nat) := (List.range n).flatMap fun f => (List.range (n - f)).map fun j => (f, f + 1 + j)
def spK (p : Nat × Nat) : List Key := [.inl (p.1 : Int), .inl (p.2 : Int)]
theorem spK_inj {p q : Nat × Nat} (h : spK p = spK q) : p = q := by
  obtain ⟨a, b⟩ := p
  obtain ⟨c, d⟩ := q
  simp only [spK, List.cons.injEq, Sum.inl.injEq, and_true] at h
  obtain ⟨h1, h2⟩ := h
  have e1 : a = c := by omega
  have e2 : b = d := by omega
  rw [e1, e2]
theorem mem_spots {n : Nat} {p : Nat × Nat} : p ∈ spots n ↔ p.1 < p.2 ∧ p.2 ≤ n := by
  unfold spots
  rw [List.mem_flatMap]
  constructor
  · rintro ⟨f, hf, hp⟩
    obtain ⟨j, hj, rfl⟩ := List.mem_map.mp hp
    have := List.mem_range.mp hf
    have := List.mem_range.mp hj
    simp only
    omega
  · rintro ⟨h1, h2⟩
    refine ⟨p.1, List.mem_range.mpr (by omega), List.mem_map.mpr ⟨p.2 - p.1 - 1, List.mem_range.mpr (by omega), ?_⟩⟩
    obtain ⟨a, b⟩ := p
    simp only at h1 h2 ⊢
    congr 1
    omega
/-- the shape of the row from f to e -/
def shp (b : Bx) (dn : Bool) (ws : List Int) (f e : Nat) : Rat := rowShape b dn ws f (e - f)
def tabOf (sh : Nat → Nat → Rat) (l : List (Nat × Nat)) : List (List Key × D) := l.map fun p => (spK p, dR (sh p.1 p.2))
def shapesT (b : Bx) (dn : Bool) (ws : List Int) : List (List Key × D) := tabOf (shp b dn ws) (spots ws.length)
theorem lk_tab {sh : Nat → Nat → Rat} {l : List (Nat × Nat)} {f e : Nat} (h : (f, e) ∈ l) : lk (tabOf sh l) [.inl (f : Int), .inl (e : Int)] = some (dR (sh f e)) :=
  look_map spK (fun p => dR (sh p.1 p.2)) (f, e) l h fun y _ hy => spK_inj hy
theorem lk_shapes {b : Bx} {dn : Bool} {ws : List Int} {f e : Int} (h0 : 0 ≤ f) (h1 : f < e) (h2 : e ≤ ws.length) : lk (shapesT b dn ws) [.inl f, .inl e] = some (dR (shp b dn ws f.toNat e.toNat)) := by
  have := lk_tab (sh := shp b dn ws) (l := spots ws.length) (f := f.toNat) (e := e.toNat) (mem_spots.mpr ⟨by simp only; omega, by simp only; omega⟩)
  rw [show ((f.toNat : Nat) : Int) = f by omega, show ((e.toNat : Nat) : Int) = e by omega] at this
  exact this
theorem r_getSh {b : Bx} {dn : Bool} {ws : List Int} {f e : Int} {cs : Cs} {P : DP} (h0 : 0 ≤ f) (h1 : f < e) (h2 : e ≤ ws.length) (h : P (dR (shp b dn ws f.toNat e.toNat)) cs) : oGetD (.dct (shapesT b dn ws)) (.tup [.int f, .int e]) cs P := r_getT2 (lk_shapes h0 h1 h2) h
end DL
namespace DL
open PySem PySem.Spec PyProof.Rows L2
/-- rows of sizes from f to n -/
inductive Way (n : Nat) : Nat → List Nat → Prop
  | nil : Way n n []
  | cons {f z : Nat} {zs : List Nat} : 1 ≤ z → f + z ≤ n → Way n (f + z) zs → Way n f (z :: zs)
theorem Way.le {n f : Nat} {zs : List Nat} (h : Way n f zs) : f ≤ n := by
  cases h with
  | nil => exact Nat.le_refl _
  | cons h1 h2 _ => omega
theorem Way.sum {n f : Nat} {zs : List Nat} (h : Way n f zs) : f + zs.sum = n := by
  induction h with
  | nil => rfl
  | cons _ _ _ ih => rw [List.sum_cons]; omega
theorem Way.pos {n f : Nat} {zs : List Nat} (h : Way n f zs) : ∀ z ∈ zs, 1 ≤ z := by
  induction h with
  | nil => intro z hz; cases hz
  | cons h1 _ _ ih =>
    intro z hz
    rcases List.mem_cons.mp hz with e | e
    · rw [e]; exact h1
    · exact ih z e
theorem Way.of {n : Nat} : ∀ {f : Nat} {zs : List Nat}, (∀ z ∈ zs, 1 ≤ z) → f + zs.sum = n → Way n f zs
  | f, [], _, h => by
    have : f = n := by simpa using h
    rw [this]; exact .nil
  | f, z :: zs, hp, h => by
    rw [List.sum_cons] at h
    exact .cons (hp z (List.mem_cons_self ..)) (by omega) (Way.of (fun y hy => hp y (List.mem_cons_of_mem _ hy)) (by omega))
theorem Way.end_ {n : Nat} {zs : List Nat} (h : Way n n zs) : zs = [] := by
  cases h with
  | nil => rfl
  | cons h1 h2 _ => omega
theorem way_ones {n : Nat} : ∀ (k f : Nat), f + k = n → Way n f (List.replicate k 1)
  | 0, f, h => by
    have : f = n := by omega
    subst this; exact .nil
  | k + 1, f, h => .cons (Nat.le_refl _) (by omega) (way_ones k (f + 1) (by omega))
/-- the worst shape of rows -/
def wFrom (sh : Nat → Nat → Rat) : Nat → List Nat → Rat
  | _, [] => 1
  | f, z :: zs => mxR (sh f (f + z)) (wFrom sh (f + z) zs)
theorem wFrom_or (sh : Nat → Nat → Rat) {n : Nat} {f : Nat} {zs : List Nat} (h : Way n f zs) : wFrom sh f zs = 1 ∨ ∃ a b, a < b ∧ b ≤ n ∧ wFrom sh f zs = sh a b := by
  induction h with
  | nil => exact .inl rfl
  | @cons f z zs h1 h2 _ ih =>
    rw [wFrom]
    rcases mxR_or (sh f (f + z)) (wFrom sh (f + z) zs) with e | e
    · exact .inr ⟨f, f + z, by omega, h2, e⟩
    · rw [e]; exact ih
/-- x is the least worst shape behind f -/
structure IsLE (sh : Nat → Nat → Rat) (n f : Nat) (x : Rat) : Prop where
  is : ∃ zs, Way n f zs ∧ wFrom sh f zs = x
  le : ∀ zs, Way n f zs → x ≤ wFrom sh f zs
section
variable {sh : Nat → Nat → Rat} {n f : Nat} {x y : Rat}
theorem IsLE.uniq (h : IsLE sh n f x) (h' : IsLE sh n f y) : x = y := by
  obtain ⟨zs, w, e⟩ := h.is
  obtain ⟨zs', w', e'⟩ := h'.is
  exact Rat.le_antisymm (by rw [← e']; exact h.le zs' w') (by rw [← e]; exact h'.le zs w)
theorem IsLE.end_ : IsLE sh n n 1 := ⟨⟨[], .nil, rfl⟩, fun zs h => by rw [h.end_]; exact Rat.le_refl⟩
theorem IsLE.sz {k : Nat} (h : IsLE sh n f x) (h1 : Sz k 1) (hs : ∀ a b, a < b → b ≤ n → Sz k (sh a b)) : Sz k x := by
  obtain ⟨zs, w, rfl⟩ := h.is
  rcases wFrom_or sh w with e | ⟨a, b, ha, hb, e⟩
  · rw [e]; exact h1
  · rw [e]; exact hs a b ha hb
open Classical in
/-- the least worst shape behind f -/
noncomputable def LE (sh : Nat → Nat → Rat) (n f : Nat) : Rat := if h : ∃ x, IsLE sh n f x then h.choose else 1
theorem IsLE.eq (h : IsLE sh n f x) : LE sh n f = x := by
  unfold LE
  rw [dif_pos ⟨x, h⟩]
  exact (Exists.choose_spec (⟨x, h⟩ : ∃ x, IsLE sh n f x)).uniq h
end
/-- the first of the ways on which all rows are good -/
inductive IsFW (good : Nat → Nat → Prop) (n : Nat) : Nat → List Nat → Prop
  | nil : IsFW good n n []
  | cons {f z : Nat} {zs : List Nat} : 1 ≤ z → f + z ≤ n → good f (f + z) → (∀ y, 1 ≤ y → y < z → ¬ good f (f + y)) → IsFW good n (f + z) zs → IsFW good n f (z :: zs)
section
variable {good : Nat → Nat → Prop} {n f : Nat} {zs ys : List Nat}
theorem IsFW.way (h : IsFW good n f zs) : Way n f zs := by
  induction h with
  | nil => exact .nil
  | cons h1 h2 _ _ _ ih => exact .cons h1 h2 ih
theorem IsFW.uniq (h : IsFW good n f zs) : ∀ {ys}, IsFW good n f ys → zs = ys := by
  induction h with
  | nil => intro ys h'; exact h'.way.end_.symm
  | @cons f z zs h1 h2 g m r ih =>
    intro ys h'
    cases h' with
    | nil => omega
    | @cons _ y ys h1' h2' g' m' r' =>
      have e : z = y := by
        rcases Nat.lt_trichotomy z y with q | q | q
        · exact absurd g (m' z h1 q)
        · exact q
        · exact absurd g' (m y h1' q)
      subst e
      rw [ih r']
end
section
variable {sh : Nat → Nat → Rat} {n f : Nat} {B : Rat}
theorem IsFW.snoc {good : Nat → Nat → Prop} {g e : Nat} {ys : List Nat} (h : ∀ zs, IsFW good n f zs → IsFW good n g (ys ++ zs)) (h1 : f < e) (h2 : e ≤ n) (hg : good f e) (hn : ∀ y, f < y → y < e → ¬ good f y) : ∀ zs, IsFW good n e zs → IsFW good n g ((ys ++ [e - f]) ++ zs) := fun zs hz => by
  rw [List.append_assoc]
  have e1 : f + (e - f) = e := by omega
  exact h _ (.cons (by omega) (by omega) (by rw [e1]; exact hg) (fun y y1 y2 => hn (f + y) (by omega) (by omega)) (by rw [e1]; exact hz))
end
theorem sum_cast : ∀ (l : List Nat), ((l.map fun z : Nat => (z : Int)).sum : Int) = (l.sum : Nat)
  | [] => rfl
  | z :: l => by rw [List.map_cons, List.sum_cons, List.sum_cons, sum_cast l]; omega
theorem way_szok {n : Nat} {zs : List Nat} (h : Way n 0 zs) : SzOk (zs.map fun z : Nat => (z : Int)) n := by
  refine ⟨fun z hz => ?_, ?_⟩
  · obtain ⟨y, hy, rfl⟩ := List.mem_map.mp hz
    have := h.pos y hy
    omega
  · rw [sum_cast]
    have := h.sum
    omega
end DL
namespace DL
open PySem PySem.Spec PyProof.Rows L2
section
variable {X : Cx} {W : WX} {K : PySem.W.Frag} {σ : L2.St} {H : Hp} {a e : Expr} {wa we : DL.WE} {w : WA} {pos : Pos}
/-- n - 1, .., 0 -/
def dnD (n : Nat) : List D := (List.range n).map fun (i : Nat) => D.int ((n : Int) - 1 - (i : Int))
def iRev1 (wa : DL.WE) : WI := fun ρ cs P Z => wa ρ cs (fun d cs1 => match d with
  | .int j => (0 ≤ j ∧ j < 2 ^ 62) ∧ P (dnD j.toNat) cs1
  | _ => False) Z
/-- range(a, b, -1) -/
def dnR (i : Int) (n : Nat) : List D := (List.range n).map fun (k : Nat) => D.int (i - (k : Int))
def iRg3 (w : WA) : WI := fun ρ cs P Z => w ρ cs (fun ds cs1 => match ds with
  | [.int i, .int j, .int (-1)] => (-(2 ^ 62) ≤ i ∧ i < 2 ^ 62 ∧ -(2 ^ 62) ≤ j ∧ j < 2 ^ 62) ∧ P (dnR i (i - j).toNat) cs1
  | _ => False) Z
/-- list(range(n)) -/
def wLstR (wa : DL.WE) : DL.WE := fun ρ cs P Z => wa ρ cs (fun d cs1 => match d with
  | .int j => (0 ≤ j ∧ j ≤ 100000) ∧ P (.lst (rngD 0 j.toNat)) cs1
  | _ => False) Z
def wLstRM (wa : DL.WE) : DL.WE := fun ρ cs P Z => wa ρ cs (fun d cs1 => match d with
  | .int j => (0 ≤ j ∧ j ≤ 100000) ∧ ∀ p, p ∉ adr cs1 → P (.opq (.ref p)) ((p, .lst (rngD 0 j.toNat)) :: cs1)
  | _ => False) Z
end
section
variable {ρ : DL.Env} {cs : Cs} {P : DP} {Z : XZ} {wa wb wc : DL.WE}
theorem r_rev1 {R : List D → Cs → Prop} (h : wa ρ cs (fun d cs1 => match d with
  | .int j => (0 ≤ j ∧ j < 2 ^ 62) ∧ R (dnD j.toNat) cs1
  | _ => False) Z) : iRev1 wa ρ cs R Z := h
theorem r_rg3 {R : List D → Cs → Prop} {i j : Int} {w : WA} (h : w ρ cs (fun ds cs1 => match ds with
  | [.int i, .int j, .int (-1)] => (-(2 ^ 62) ≤ i ∧ i < 2 ^ 62 ∧ -(2 ^ 62) ≤ j ∧ j < 2 ^ 62) ∧ R (dnR i (i - j).toNat) cs1
  | _ => False) Z) : iRg3 w ρ cs R Z := h
theorem r_lstR (h : wa ρ cs (fun d cs1 => match d with
  | .int j => (0 ≤ j ∧ j ≤ 100000) ∧ P (.lst (rngD 0 j.toNat)) cs1
  | _ => False) Z) : wLstR wa ρ cs P Z := h
theorem r_lstRM (h : wa ρ cs (fun d cs1 => match d with
  | .int j => (0 ≤ j ∧ j ≤ 100000) ∧ ∀ p, p ∉ adr cs1 → P (.opq (.ref p)) ((p, .lst (rngD 0 j.toNat)) :: cs1)
  | _ => False) Z) : wLstRM wa ρ cs P Z := h
end
theorem tuple_mul1 (l : Addr) (items : Array Value) (n : Nat) (dd : Option Addr) (sl : Array (Option Value)) (u : Tok) :
    Meets (Builtin.«tuple.__mul__» ⟨[.ref l, .int 1 u], []⟩) (fun _ R s => s.heap.get? l = some { cls := .type "tuple", dict := dd, data := .seq items n, slots := sl } ∧ R (.ok (.ret (Value.ref l))) s) :=
  .of_wp fun prog w A R s h => by
    obtain ⟨hp, g, d, tk, os⟩ := s
    obtain ⟨hl, h⟩ := h
    have f1 := AutoSeq1.idx_int
    have c1 : (items.isEmpty || (1 : Int) == 1) = true := by cases items.isEmpty <;> rfl
    wp_walk using wpAny_loadPart' hl
    repeat (first
      | (refine wpAny_ite_true (decide_eq_true c1) ?_; wp_walk using wpAny_loadPart' hl)
      | (refine wpAny_ite_true (by rw [c1]; rfl) ?_; wp_walk using wpAny_loadPart' hl))
    exact ⟨_, rfl, h⟩
def rRepO (K : PySem.W.Frag) : R2 := fun x y H Q => ∃ l xs, x = .ref l ∧ y = .int 1 ∧ SqT K H l xs ∧ Q (.ref l) H
section
variable {X : Cx} {W : WX} {K : PySem.W.Frag} {a b : Expr} {wa wb : DL.WE} {pos : Pos}
theorem op_repO : OpR X (binaryOp .Mult) (rRepO X.K) := by
  intro pins s σ H x y v u Q I rx ry h
  obtain ⟨l, xs, rfl, rfl, hT, q⟩ := h
  cases rx
  obtain ⟨t, rfl⟩ := ry
  obtain ⟨its, r, ⟨⟨cls, dd, data, sl⟩, ho, hc, n, hd⟩, hs⟩ := I.tuple hT
  simp only at hc hd
  subst hc hd
  exact wpAny_binaryOp_repeat_ref (T := "tuple") (U := "int") (by decide) ⟨_, ho, rfl⟩ (fun s' => typeIs_int s' 1 t) noFill_tuple_mul F.fills_int_mul F.slot_int_rmul repeat_tuple F.slot_int_index.lookup
    (call_meets F.slot_int_rmul (typeIs_int s 1 t) F.entry_int_rmul (F.args_int_rmul_2 _ _) (int_rmul_tuple 1 t l its.toArray n dd sl)
      ⟨ho, rfl, ⟨_, ho, rfl⟩, call_meets F.slot_tuple_mul ⟨_, ho, rfl⟩ F.entry_tuple_mul (F.args_tuple_mul_2 _ _) (tuple_mul1 l its.toArray n dd sl t) ⟨ho, .ref l, H, I, rfl, q⟩⟩)
def rRep (K : PySem.W.Frag) : R2 := fun x y H Q => rRepO K x y H Q ∨ rRepT K x y H Q
theorem op_rep : OpR X (binaryOp .Mult) (rRep X.K) := by
  intro pins s σ H x y v u Q I rx ry h
  rcases h with h | h
  · exact op_repO pins s σ H x y v u Q I rx ry h
  · exact op_repT pins s σ H x y v u Q I rx ry h
theorem RepL.rep {G : Hp} {vs : List V} {ds : List D} (h : RepL K G vs ds) : ∀ k : Nat, RepL K G (List.replicate k vs).flatten (List.replicate k ds).flatten
  | 0 => .nil
  | k + 1 => by
    rw [List.replicate_succ, List.replicate_succ, List.flatten_cons, List.flatten_cons]
    exact h.append (RepL.rep h k)
theorem rep_one (d : D) : ∀ k : Nat, (List.replicate k [d]).flatten = List.replicate k d
  | 0 => rfl
  | k + 1 => by rw [List.replicate_succ, List.flatten_cons, rep_one d k]; rfl
end
end DL
namespace DL
open PySem PySem.Spec PyProof.Rows L2
section
variable {X : Cx} {W : WX} {K : PySem.W.Frag} {σ : L2.St} {H : Hp} {pos : Pos} {a b e : Expr} {es : List Expr} {wa wb we : DL.WE} {w : WA} {apos cpos : Pos}
def isDM (d : D) (cs : Cs) : Prop := match d with
  | .opq (.ref p) => (match look p cs with
    | some (.dic _) => True
    | some (.dct _) => True
    | _ => False)
  | _ => False
def wMtD (o : DMt) (wo : DL.WE) (w : WA) : DL.WE := fun ρ cs P Z => wo ρ cs (fun x cs1 => isDM x cs1 ∧ w ρ cs1 (fun ds cs2 => o x ds cs2 P) Z) Z
def mergeD (kvs more : List (Key × D)) : List (Key × D) := more.foldl (fun acc kv => putD acc kv.1 kv.2) kvs
theorem RG.merge {G : Hp} {more : List (Key × V)} {dm : List (Key × D)} (h : RG K G more dm) : ∀ {xs : List (Key × V)} {ds : List (Key × D)}, RG K G xs ds → RG K G (mergeK xs more) (mergeD ds dm) := by
  induction h with
  | nil => intro xs ds h; exact h
  | cons h _ ih => intro xs ds h0; exact ih (h0.put _ h)
def oUpd : DMt := fun x ds cs P => ∃ p kvs more, x = .opq (.ref p) ∧ look p cs = some (.dic kvs) ∧ ds = [.dic more] ∧ kvs.length + more.length ≤ 100000 ∧ P .non (put p (.dic (mergeD kvs more)) cs)
/-- d.get(k, x) -/
def wGet2 (wo wk wz : DL.WE) : DL.WE := fun ρ cs P Z => wo ρ cs (fun x cs1 => (∃ dd, ddAt x cs1 = some dd) ∧ wk ρ cs1 (fun k cs2 => wz ρ cs2 (fun z cs3 => ∃ o, getV x k cs3 = some o ∧ P (o.getD z) cs3) Z) Z) Z
end
section
variable {ρ : DL.Env} {cs : Cs} {P : DP} {Z : XZ} {wo wk wz : DL.WE} {w : WA} {p : Addr} {kvs more : List (Key × D)}
theorem r_mtD {o : DMt} (h : wo ρ cs (fun x cs1 => isDM x cs1 ∧ w ρ cs1 (fun ds cs2 => o x ds cs2 P) Z) Z) : wMtD o wo w ρ cs P Z := h
theorem r_isDM (hl : look p cs = some (.dic kvs)) {R : Prop} (h : R) : isDM (.opq (.ref p)) cs ∧ R := ⟨by unfold isDM; simp only [hl], h⟩
theorem r_updH (hz : kvs.length + more.length ≤ 100000) (h : P .non ((p, .dic (mergeD kvs more)) :: cs)) : oUpd (.opq (.ref p)) [.dic more] ((p, .dic kvs) :: cs) P := ⟨p, kvs, more, rfl, by simp [look], rfl, hz, by rw [put_hd]; exact h⟩
theorem r_get2 (h : wo ρ cs (fun x cs1 => (∃ dd, ddAt x cs1 = some dd) ∧ wk ρ cs1 (fun k cs2 => wz ρ cs2 (fun z cs3 => ∃ o, getV x k cs3 = some o ∧ P (o.getD z) cs3) Z) Z) Z) : wGet2 wo wk wz ρ cs P Z := h
theorem r_ddK {R : Prop} (h : R) : (∃ dd, ddAt (.dic kvs) cs = some dd) ∧ R := ⟨⟨.inl kvs, rfl⟩, h⟩
theorem r_ddM (hl : look p cs = some (.dic kvs)) {R : Prop} (h : R) : (∃ dd, ddAt (.opq (.ref p)) cs = some dd) ∧ R := ⟨⟨.inl kvs, by simp [ddAt, hl]⟩, h⟩
theorem r_gvKI {i : Int} {R : Option D → Prop} (h : R (lk kvs (.inl i))) : ∃ o, getV (.dic kvs) (.int i) cs = some o ∧ R o := ⟨_, by simp [getV, ddAt, kOf], h⟩
theorem r_gvKS {x : Str} {R : Option D → Prop} (h : R (lk kvs (.inr x))) : ∃ o, getV (.dic kvs) (.str x) cs = some o ∧ R o := ⟨_, by simp [getV, ddAt, kOf], h⟩
theorem r_gvMI {i : Int} {R : Option D → Prop} (hl : look p cs = some (.dic kvs)) (h : R (lk kvs (.inl i))) : ∃ o, getV (.opq (.ref p)) (.int i) cs = some o ∧ R o := ⟨_, by simp [getV, ddAt, hl, kOf], h⟩
theorem r_gvMS {x : Str} {R : Option D → Prop} (hl : look p cs = some (.dic kvs)) (h : R (lk kvs (.inr x))) : ∃ o, getV (.opq (.ref p)) (.str x) cs = some o ∧ R o := ⟨_, by simp [getV, ddAt, hl, kOf], h⟩
end
end DL
namespace DL
open PySem PySem.Spec PyProof.Rows L2
/-- e is come to by rows of shapes below r -/
inductive Rch (sh : Nat → Nat → Rat) (n : Nat) (r : Rat) : Nat → Prop
  | zero : Rch sh n r 0
  | step {f e : Nat} : Rch sh n r f → f < e → e ≤ n → sh f e < r → Rch sh n r e
section
variable {sh : Nat → Nat → Rat} {n : Nat} {r : Rat}
theorem Rch.le {e : Nat} (h : Rch sh n r e) : e ≤ n := by
  cases h with
  | zero => exact Nat.zero_le _
  | step _ _ h _ => exact h
end
abbrev natI (l : List Nat) : List Int := l.map fun z : Nat => (z : Int)
section
variable {cs : Cs} {P : DP} {s : Int} {ss : List Int} {x : Str} {xs : List Str}
theorem r_inLI (h : P (.bl (decide (s ∈ ss))) cs) : oIn (.int s) (.lst (ss.map D.int)) cs P := .inr ⟨s, ss, rfl, .inr rfl, h⟩
theorem r_inTI (h : P (.bl (decide (s ∈ ss))) cs) : oIn (.int s) (.tup (ss.map D.int)) cs P := .inr ⟨s, ss, rfl, .inl rfl, h⟩
theorem r_niLI (h : P (.bl (!decide (s ∈ ss))) cs) : oNotIn (.int s) (.lst (ss.map D.int)) cs P := .inr ⟨s, ss, rfl, .inr rfl, h⟩
theorem r_niTI (h : P (.bl (!decide (s ∈ ss))) cs) : oNotIn (.int s) (.tup (ss.map D.int)) cs P := .inr ⟨s, ss, rfl, .inl rfl, h⟩
theorem r_inLS (h : P (.bl (decide (x ∈ xs))) cs) : oIn (.str x) (.lst (xs.map D.str)) cs P := .inl ⟨x, xs, rfl, .inr rfl, h⟩
theorem r_niLS (h : P (.bl (!decide (x ∈ xs))) cs) : oNotIn (.str x) (.lst (xs.map D.str)) cs P := .inl ⟨x, xs, rfl, .inr rfl, h⟩
end
def r6 : Rat := ⟨1, 1000000, by decide, by decide⟩
theorem atD_map {α : Type} {l : List α} {g : α → D} {j : Nat} {x : α} (h : l[j]? = some x) : atD (l.map g) (j : Int) = some (g x) := atI_nat (by rw [List.getElem?_map, h]; rfl)
theorem atD_last {α : Type} {g : α → D} {l : List α} {x : α} (h : l[l.length - 1]? = some x) (hl : 1 ≤ l.length) : atD (l.map g) (-1) = some (g x) := by
  have e : ixN (l.map g).length (-1) = some (l.length - 1) := by
    unfold ixN
    rw [List.length_map, if_neg (by decide), if_pos (by omega)]
    congr 1
    omega
  unfold atD L2.atI
  rw [e]
  show (l.map g)[l.length - 1]? = _
  rw [List.getElem?_map, h]; rfl
end DL
namespace DL
open PySem PySem.Spec PyProof.Rows L2
section
variable {X : Cx} {W : WX} {K : PySem.W.Frag} {σ : L2.St} {H : Hp} {a b e : Expr} {wa wb we : DL.WE} {pos : Pos}
/-- tuples of ints -/
def tupI (k : List Int) : D := .tup (k.map D.int)
def wLenSet (we : DL.WE) : DL.WE := fun ρ cs P Z => we ρ cs (fun d cs1 => ∃ ks : List (List Int), lstOf cs1 d = some (ks.map tupI) ∧ ks.length < 64 ∧ ∀ m : Nat, (ks.Nodup → m = ks.length) → (¬ ks.Nodup → m < ks.length) → P (.int (m : Int)) cs1) Z
theorem RepL.tups {G : Hp} : ∀ {vs : List V} {ks : List (List Int)}, RepL K G vs (ks.map tupI) → ∃ zs : List (Addr × List Int), vs = zs.map (fun z => V.ref z.1) ∧ zs.map (·.2) = ks ∧ ∀ z ∈ zs, SqT K G z.1 (z.2.map V.int)
  | vs, [], h => by
    cases h
    exact ⟨[], rfl, rfl, fun _ h => (nomatch h)⟩
  | vs, k :: ks, h => by
    rw [List.map_cons] at h
    cases h with
    | @cons v vs _ _ h r =>
    cases h with
    | @tup q xs _ e rl =>
    obtain ⟨zs, h1, h2, h3⟩ := RepL.tups r
    refine ⟨(q, k) :: zs, by rw [h1]; rfl, by rw [List.map_cons, h2], fun z hz => ?_⟩
    rcases List.mem_cons.mp hz with e' | e'
    · rw [e']; show SqT K G q (k.map V.int); rw [← RepL.intsL k rl]; exact e
    · exact h3 z e'
end
section
variable {ρ : DL.Env} {cs : Cs} {P : DP} {Z : XZ} {we : DL.WE} {xs : List D} {d : D} {p : Addr}
theorem r_lenSet (h : we ρ cs (fun d cs1 => ∃ ks : List (List Int), lstOf cs1 d = some (ks.map tupI) ∧ ks.length < 64 ∧ ∀ m : Nat, (ks.Nodup → m = ks.length) → (¬ ks.Nodup → m < ks.length) → P (.int (m : Int)) cs1) Z) : wLenSet we ρ cs P Z := h
end
end DL
namespace DL
open PySem PySem.Spec PyProof.Rows L2
/-- rows from f to n, each let by R -/
inductive LWay (R : Nat → Nat → Prop) (n : Nat) : Nat → List Nat → Prop
  | nil : LWay R n n []
  | cons {f z : Nat} {zs : List Nat} : 1 ≤ z → f + z ≤ n → R f (f + z) → LWay R n (f + z) zs → LWay R n f (z :: zs)
/-- their cost -/
def wc (c : Nat → Nat → Int) : Nat → List Nat → Int
  | _, [] => 0
  | f, z :: zs => c f (f + z) + wc c (f + z) zs
/-- k is the least cost -/
structure IsC (R : Nat → Nat → Prop) (c : Nat → Nat → Int) (n f : Nat) (k : Int) : Prop where
  is : ∃ zs, LWay R n f zs ∧ wc c f zs = k
  le : ∀ zs, LWay R n f zs → k ≤ wc c f zs
section
variable {R : Nat → Nat → Prop} {c : Nat → Nat → Int} {n f : Nat} {k l : Int} {zs : List Nat}
theorem LWay.way (h : LWay R n f zs) : Way n f zs := by
  induction h with
  | nil => exact .nil
  | cons h1 h2 _ _ ih => exact .cons h1 h2 ih
theorem LWay.end_ (h : LWay R n n zs) : zs = [] := h.way.end_
theorem IsC.uniq (h : IsC R c n f k) (h' : IsC R c n f l) : k = l := by
  obtain ⟨zs, w, e⟩ := h.is
  obtain ⟨zs', w', e'⟩ := h'.is
  have h1 := h.le zs' w'
  have h2 := h'.le zs w
  omega
theorem IsC.end_ : IsC R c n n 0 := ⟨⟨[], .nil, rfl⟩, fun zs h => by rw [h.end_]; exact Int.le_refl _⟩
end
section
variable {K : PySem.W.Frag}
def oMinL : DOn := fun ds cs P => ∃ (d : D) (ns : List Int), ds = [d] ∧ lstOf cs d = some (ns.map D.int) ∧ 0 < ns.length ∧ ∀ m, m ∈ ns → (∀ y, y ∈ ns → m ≤ y) → P (.int m) cs
def oMaxL : DOn := fun ds cs P => ∃ (d : D) (ns : List Int), ds = [d] ∧ lstOf cs d = some (ns.map D.int) ∧ 0 < ns.length ∧ ∀ m, m ∈ ns → (∀ y, y ∈ ns → y ≤ m) → P (.int m) cs
theorem adq_min : AdqN K (rMin K) oMinL := fun F cs H xs ds P Q s r ho pe => by
  obtain ⟨d, ns, rfl, hl, h0, h⟩ := ho
  cases r with
  | cons r1 r2 =>
  cases r2
  obtain ⟨p, vs, rfl, h1, h2⟩ := lstOf_sq s r1 hl
  rw [RepL.intsL ns h2] at h1
  exact ⟨p, ns, rfl, h1, h0, fun m m1 m2 => pe H cs _ _ s (.int _) (h m m1 m2)⟩
theorem adq_max : AdqN K (rMax K) oMaxL := fun F cs H xs ds P Q s r ho pe => by
  obtain ⟨d, ns, rfl, hl, h0, h⟩ := ho
  cases r with
  | cons r1 r2 =>
  cases r2
  obtain ⟨p, vs, rfl, h1, h2⟩ := lstOf_sq s r1 hl
  rw [RepL.intsL ns h2] at h1
  exact ⟨p, ns, rfl, h1, h0, fun m m1 m2 => pe H cs _ _ s (.int _) (h m m1 m2)⟩
theorem r_minL {ns : List Int} {cs : Cs} {P : DP} (h0 : 0 < ns.length) (h : ∀ m, m ∈ ns → (∀ y, y ∈ ns → m ≤ y) → P (.int m) cs) : oMinL [.lst (ns.map D.int)] cs P := ⟨_, ns, rfl, rfl, h0, h⟩
theorem r_maxL {ns : List Int} {cs : Cs} {P : DP} (h0 : 0 < ns.length) (h : ∀ m, m ∈ ns → (∀ y, y ∈ ns → y ≤ m) → P (.int m) cs) : oMaxL [.lst (ns.map D.int)] cs P := ⟨_, ns, rfl, rfl, h0, h⟩
end
structure KOk (ks : List (Int × Int)) (n : Nat) : Prop where
  in_ : ∀ p ∈ ks, 0 ≤ p.1 ∧ 1 ≤ p.2 ∧ p.1 + p.2 ≤ n
  nd : ks.Nodup
  len : ks.length < 64
theorem KOk.sub {ks ls : List (Int × Int)} {n : Nat} (h : KOk ks n) (p : ls.Sublist ks) : KOk ls n := ⟨fun x hx => h.in_ x (p.subset hx), p.nodup h.nd, Nat.lt_of_le_of_lt p.length_le h.len⟩
section
variable {sh : Nat → Nat → Rat} {n : Nat} {r r' : Rat} {ks ls : List (Int × Int)} {f : Nat} {zs : List Nat}
theorem LWay.imp {R R' : Nat → Nat → Prop} (h : LWay R n f zs) (hi : ∀ a e, R a e → R' a e) : LWay R' n f zs := by
  induction h with
  | nil => exact .nil
  | cons h1 h2 h3 _ ih => exact .cons h1 h2 (hi _ _ h3) ih
theorem Way.len {ys : List Nat} (h : Way n f ys) : f + ys.length ≤ n := by
  induction h with
  | nil => exact Nat.le_refl _
  | cons h1 h2 _ ih => rw [List.length_cons]; omega
end
def sGoneA (u : WS) : WS := fun f ρ cs => u { f with nx := fun ρ' cs' => ∃ p m, look p cs' = some m ∧ f.nx ρ' (del p cs') } ρ cs
theorem ds_goneA {X : Cx} {W : WX} {st : Stmt} {u : WS} (h : DS X W st u) : DS X W st (sGoneA u) := PS.imp h fun E σ H hq => by
  obtain ⟨F, cs, ρ, f, s, re, hw, pe⟩ := hq
  refine ⟨F, cs, ρ, _, s, re, hw, ⟨fun H1 cs1 σ1 ρ1 s1 re1 h1 => ?_, pe.bk, pe.ct, pe.rt, pe.ex⟩⟩
  obtain ⟨p, m, hl, h2⟩ := h1
  obtain ⟨s2, g2, _⟩ := s1.frz hl
  exact pe.nx H1 _ σ1 ρ1 s2 (re1.mono g2) h2
section
variable {ρ : DL.Env} {cs : Cs} {u : WS} {nx bk ct : DL.Env → Cs → Prop} {rt : D → Cs → Prop} {ex : Exn → DL.Env → Cs → Prop}
theorem q_goneA (h : u ⟨fun ρ' cs' => ∃ p m, look p cs' = some m ∧ nx ρ' (del p cs'), rt, ex, bk, ct⟩ ρ cs) : sGoneA u ⟨nx, rt, ex, bk, ct⟩ ρ cs := h
theorem r_goneEx {p : Addr} {m : MO} (h : nx ρ cs) : ∃ q m', look q ((p, m) :: cs) = some m' ∧ nx ρ (del q ((p, m) :: cs)) := ⟨p, m, look_hd, by rw [del_hd]; exact h⟩
end
theorem look_2 {p q : Addr} {x y : MO} {cs : Cs} (h : p ≠ q) : look q ((p, x) :: (q, y) :: cs) = some y := by
  simp [look, h]
section
variable {R : Nat → Nat → Prop} {c : Nat → Nat → Int} {f e g : Nat} {k : Int} {zs : List Nat}
theorem LWay.snoc (h : LWay R f g zs) (h1 : f < e) (hr : R f e) : LWay R e g (zs ++ [e - f]) ∧ wc c g (zs ++ [e - f]) = wc c g zs + c f e := by
  induction h with
  | nil =>
    have e1 : f + (e - f) = e := by omega
    refine ⟨.cons (by omega) (by omega) (by rw [e1]; exact hr) (by rw [e1]; exact .nil), ?_⟩
    rw [List.nil_append, wc, wc, wc, e1]; omega
  | @cons g z zs z1 z2 z3 w ih =>
    obtain ⟨i1, i2⟩ := ih
    refine ⟨.cons z1 (by omega) z3 i1, ?_⟩
    rw [List.cons_append, wc, wc, i2]; omega
end
end DL
namespace DL
open PySem PySem.Spec PyProof.Rows L2
section
variable {X : Cx} {W : WX} {K : PySem.W.Frag} {e : Expr} {td : TE} {we : DL.WE} {apos cpos : Pos}
theorem RG.len {κ : Type} {G : Hp} {xs : List (κ × V)} {ds : List (κ × D)} (h : RG K G xs ds) : xs.length = ds.length := by
  induction h with
  | nil => rfl
  | cons _ _ ih => rw [List.length_cons, List.length_cons, ih]
def iItT (we : DL.WE) : WI := fun ρ cs P Z => we ρ cs (fun d cs1 => match d with
  | .dct kvs => P (kvs.map fun p => D.tup [D.tup (p.1.map kD), p.2]) cs1
  | _ => False) Z
def iItK (we : DL.WE) : WI := fun ρ cs P Z => we ρ cs (fun d cs1 => match d with
  | .dic kvs => P (kvs.map fun p => D.tup [kD p.1, p.2]) cs1
  | _ => False) Z
theorem r_itT {ρ : DL.Env} {cs : Cs} {R : List D → Cs → Prop} {Z : XZ} (h : we ρ cs (fun d cs1 => match d with
  | .dct kvs => R (kvs.map fun p => D.tup [D.tup (p.1.map kD), p.2]) cs1
  | _ => False) Z) : iItT we ρ cs R Z := h
theorem r_itK {ρ : DL.Env} {cs : Cs} {R : List D → Cs → Prop} {Z : XZ} (h : we ρ cs (fun d cs1 => match d with
  | .dic kvs => R (kvs.map fun p => D.tup [kD p.1, p.2]) cs1
  | _ => False) Z) : iItK we ρ cs R Z := h
end
section
variable {X : Cx} {W : WX} {K : PySem.W.Frag} {a b : Expr} {rest : List Expr} {pos : Pos} {wa wb : DL.WE}
def truD : D → Option Bool
  | .non => some false
  | .bl k => some k
  | .int i => some (i != 0)
  | .str x => if x.length ≤ 1000 then some ((x.length : Int) != 0) else none
  | .lst xs => some (!xs.isEmpty)
  | .tup xs => some (!xs.isEmpty)
  | _ => none
def wOrT (wa wb : DL.WE) : DL.WE := fun ρ cs P Z => wa ρ cs (fun x cs1 => ∃ k, truD x = some k ∧ (k = true → P x cs1) ∧ (k = false → wb ρ cs1 P Z)) Z
theorem r_orT {ρ : DL.Env} {cs : Cs} {P : DP} {Z : XZ} (h : wa ρ cs (fun x cs1 => ∃ k, truD x = some k ∧ (k = true → P x cs1) ∧ (k = false → wb ρ cs1 P Z)) Z) : wOrT wa wb ρ cs P Z := h
end
def sFrzA (i : Nat) (u : WS) : WS := fun f ρ cs => u { f with nx := fun ρ' cs' => ∃ p xs, ρ'[i]? = some (some (.opq (.ref p))) ∧ look p cs' = some (.lst xs) ∧ f.nx (ρ'.set i (some (.lst xs))) (del p cs') } ρ cs
theorem set_same {α : Type} : ∀ {l : List α} {i : Nat} {x : α}, l[i]? = some x → l.set i x = l
  | [], _, _, e => by cases e
  | _ :: _, 0, _, e => by cases e; rfl
  | a :: l, i + 1, x, e => by rw [List.set_cons_succ, set_same (l := l) (i := i) e]
theorem ds_frzA {X : Cx} {W : WX} {st : Stmt} {u : WS} (i : Nat) (h : DS X W st u) : DS X W st (sFrzA i u) := PS.imp h fun E σ H hq => by
  obtain ⟨F, cs, ρ, f, s, re, hw, pe⟩ := hq
  refine ⟨F, cs, ρ, _, s, re, hw, ⟨fun H1 cs1 σ1 ρ1 s1 re1 h1 => ?_, pe.bk, pe.ct, pe.rt, pe.ex⟩⟩
  obtain ⟨p, xs, hi, hl, h2⟩ := h1
  obtain ⟨v, hv, rv⟩ := re1.get hi
  cases rv
  obtain ⟨s2, g2, o, ho, m⟩ := s1.frz hl
  cases o <;> try exact m.elim
  have re2 := (re1.mono g2).set (Rep.lst (SqL.of ho) m) i
  rw [set_same hv] at re2
  exact pe.nx H1 _ σ1 _ s2 re2 h2
theorem q_frzA {i : Nat} {ρ : DL.Env} {cs : Cs} {u : WS} {nx bk ct : DL.Env → Cs → Prop} {rt : D → Cs → Prop} {ex : Exn → DL.Env → Cs → Prop} (h : u ⟨fun ρ' cs' => ∃ p xs, ρ'[i]? = some (some (.opq (.ref p))) ∧ look p cs' = some (.lst xs) ∧ nx (ρ'.set i (some (.lst xs))) (del p cs'), rt, ex, bk, ct⟩ ρ cs) : sFrzA i u ⟨nx, rt, ex, bk, ct⟩ ρ cs := h
end DL
namespace DL
open PySem PySem.Spec PyProof.Rows L2 PySem.Calls PySem.W
section
variable {X : Cx}
inductive Ws (R : V → List Int → Prop) : List V → List (List Int) → Prop
  | nil : Ws R [] []
  | cons {v : V} {z : List Int} {vs : List V} {zs : List (List Int)} : R v z → Ws R vs zs → Ws R (v :: vs) (z :: zs)
theorem Ws.back {R : V → List Int → Prop} : ∀ {zs : List (List Int)} {us : List Value}, PySem.W.EachIs (fun u z => ∃ w, R w z ∧ L2.RelV w u) us zs → ∃ ws, Ws R ws zs ∧ Vals ws us
  | _, _, .nil => ⟨[], .nil, .nil⟩
  | _, _, .cons ⟨w, h, r⟩ hs => by
    obtain ⟨ws, h1, h2⟩ := Ws.back hs
    exact ⟨w :: ws, .cons h h1, .cons r h2⟩
theorem Ws.len {R : V → List Int → Prop} : ∀ {ws : List V} {zs : List (List Int)}, Ws R ws zs → ws.length = zs.length
  | _, _, .nil => rfl
  | _, _, .cons _ h => congrArg Nat.succ h.len
end
theorem r_neNilD {xs : List D} {cs : Cs} {P : DP} (hp : plD 20 (.lst xs) = true) (h : P (.bl (!xs.isEmpty)) cs) : oNe (.lst xs) (.lst []) cs P := ⟨hp, rfl, by
  have e : eqD (.lst xs) (.lst []) = xs.isEmpty := by
    cases xs <;> simp [eqD, eqL]
  rw [e]; exact h⟩
end DL
namespace DL
open PySem PySem.Spec PyProof.Rows L2
/-- all sizes of n things -/
def AllZ (n : Nat) (L : List (List Int)) : Prop := (∀ z, z ∈ L ↔ SzOk z n) ∧ L.Pairwise (· ≤ ·)
/-- the chief behind i of them -/
def ChZ (w : List Int → Rat) (L : List (List Int)) (i j : Nat) (z : List Int) : Prop := j < i ∧ L[j]? = some z ∧ (∀ k y, k < i → L[k]? = some y → w z ≤ w y) ∧ ∀ k y, k < j → L[k]? = some y → w z < w y
theorem chZ_first {w : List Int → Rat} {L : List (List Int)} {i : Nat} {z : List Int} (h : L[i]? = some z) (hn : ∀ k y, k < i → L[k]? = some y → w z < w y) : ChZ w L (i + 1) i z :=
  ⟨by omega, h, fun k y hk hy => by
    by_cases e : k = i
    · rw [e, h] at hy; cases hy; exact Rat.le_refl
    · exact Rat.le_of_lt (hn k y (by omega) hy), hn⟩
theorem ChZ.keep {w : List Int → Rat} {L : List (List Int)} {i j : Nat} {z y : List Int} (h : ChZ w L i j z) (hy : L[i]? = some y) (hl : ¬ w y < w z) : ChZ w L (i + 1) j z := by
  obtain ⟨a1, a2, a3, a4⟩ := h
  refine ⟨by omega, a2, fun k x hk hx => ?_, a4⟩
  by_cases e : k = i
  · rw [e, hy] at hx; cases hx; exact Rat.not_lt.mp hl
  · exact a3 k x (by omega) hx
theorem ChZ.new {w : List Int → Rat} {L : List (List Int)} {i j : Nat} {z y : List Int} (h : ChZ w L i j z) (hy : L[i]? = some y) (hl : w y < w z) : ChZ w L (i + 1) i y := by
  obtain ⟨a1, a2, a3, a4⟩ := h
  exact chZ_first hy fun k x hk hx => Std.lt_of_lt_of_le hl (a3 k x hk hx)
theorem AllZ.ne {n : Nat} {L : List (List Int)} (h : AllZ n L) : 0 < L.length := by
  have := (h.1 (natI (List.replicate n 1))).mpr (way_szok (way_ones n 0 (by omega)))
  exact List.length_pos_of_mem this
/-- the chief among those that are let, behind i of them -/
def ChP (ok : List Int → Prop) (c : List Int → Int) (L : List (List Int)) (i j : Nat) (z : List Int) : Prop := j < i ∧ L[j]? = some z ∧ ok z ∧ (∀ k y, k < i → L[k]? = some y → ok y → c z ≤ c y) ∧ ∀ k y, k < j → L[k]? = some y → ok y → c z < c y
section
variable {ok : List Int → Prop} {c : List Int → Int} {L : List (List Int)} {i j : Nat} {z y : List Int}
theorem chP_first (h : L[i]? = some z) (hz : ok z) (hn : ∀ k y, k < i → L[k]? = some y → ok y → c z < c y) : ChP ok c L (i + 1) i z :=
  ⟨by omega, h, hz, fun k y hk hy ho => by
    by_cases e : k = i
    · rw [e, h] at hy; cases hy; exact Int.le_refl _
    · exact Int.le_of_lt (hn k y (by omega) hy ho), hn⟩
theorem ChP.keep (h : ChP ok c L i j z) (hy : L[i]? = some y) (hl : ok y → ¬ c y < c z) : ChP ok c L (i + 1) j z := by
  obtain ⟨a1, a2, a3, a4, a5⟩ := h
  refine ⟨by omega, a2, a3, fun k x hk hx ho => ?_, a5⟩
  by_cases e : k = i
  · rw [e, hy] at hx; cases hx; have := hl ho; omega
  · exact a4 k x (by omega) hx ho
theorem ChP.new (h : ChP ok c L i j z) (hy : L[i]? = some y) (ho : ok y) (hl : c y < c z) : ChP ok c L (i + 1) i y := by
  obtain ⟨a1, a2, a3, a4, a5⟩ := h
  exact chP_first hy ho fun k x hk hx ho => by have := a4 k x hk hx ho; omega
end
end DL
namespace DL
open PySem PySem.Spec PyProof.Rows L2 ClX
section
variable {X : Cx} {x m : Str} {C f : Addr} {mc : Value} {CX : CXT} {k : Nat} {fd : FuncData} {ps : List Str} {sp : Sp} {ds : List Value} {dvs : List V} {E : XK} {e : Expr} {es : List Expr} {t : TA} {p1 p2 pos : Pos}
theorem pe_cfun {pl : Sem Bool} (F : FnOk X.prog X.w X.K X.mg X.base CX k f fd ps sp) (hr : Room k X.A) (hg : Gl X x) (hm : X.mg x = some (.ref C)) (rC : CRead X.K C mc) (vC : CVal X.K C mc m (.ref f) (.ref f)) (hk : PySem.W.keepIn X.K (.ref f) = true)
    (hb : Binds X.K fd ps ds) (hd : Vals dvs ds) (hx : Passes CX X E) (ha : PA X (e :: es) t) (hdb : (x == ("__debug__" : Str)) = false := by decide)
    (hc : eval (.Call (.Attribute (.Name x p1) m p2) (e :: es) [] pos) X.env = (do
      let ov ← eval (.Name x p1) X.env
      standAt p2.atName
      let (f, first) ← holding [ov] (getMethod ov m pl)
      callWith pos f first (backTo pos (starEach (e :: es) X.env)) (backToKw pos (keywordEach [] X.env))) := by rfl)
    (he : starEach (e :: es) X.env = (false, eval e X.env) :: starEach es X.env := by rfl) (hpl : (backTo pos (starEach es X.env)).any (·.1) = false := by rfl) :
    PE X (.Call (.Attribute (.Name x p1) m p2) (e :: es) [] pos) (tCall sp dvs E t) := by
  refine ⟨fun pins s0 σ H Q I hq => ?_⟩
  refine PySem.W.methodCall_KW (ld_glob I hg hm (PySem.W.method_cls I.kIn rC.ga (getcval_ok I rC vC fun s1 J => ?_)) hdb) hc
  refine PySem.W.callWith_K (h₀ := X.base) J.ok.mod.kin hk (thn (ha.run pos pins s1 σ H _ J hq) fun us s2 hh => ?_) he hpl
  obtain ⟨vs, H1, I1, r1, q1⟩ := hh
  exact ⟨I1.kIn, run_fn F hr hb hd hx I1 r1 q1⟩
end
section
variable {X : Cx} {x : Str} {C fI : Addr} {CX : CXT} {k : Nat} {fd : FuncData} {ps : List Str} {sp : Sp} {ds : List Value} {dvs : List V} {p pos : Pos}
theorem pmk_oex0 (T : OexC X.K C) (iC : PySem.W.findIn X.K (.ref C) "__init__" = some (some (.ref fI))) (tI : PySem.W.typeIn X.K (.ref fI) = some (.type "function")) (FI : FnOk X.prog X.w X.K X.mg X.base CX k fI fd ps sp) (hr : Room (k + 1) X.A)
    (hb : Binds X.K fd ps ds) (hd : Vals dvs ds) (hx : Passes CX X (fun _ _ _ => False)) (hg : Gl X x) (hm : X.mg x = some (.ref C)) (hdb : (x == ("__debug__" : Str)) = false := by decide) : PMk X (.Call (.Name x p) [] [] pos) (tMkO C sp dvs tNil) := by
  intro pins s σ H Q I hq
  obtain ⟨nm, q, N, bs, bm, sn, sub, ab, col, dd, k0, k1, k2, k3, k5, hC, hbm⟩ := T.cls
  refine wpAny_Call_Name_kw (ld_glob I hg hm (PySem.W.callWith_K0 I.kIn T.kC ?_) hdb)
  obtain ⟨_, hq⟩ := hq
  obtain ⟨hp, g, dr, tk, os⟩ := s
  obtain ⟨b, hbe⟩ : ∃ b, b = hp.objs.size + 1 := ⟨_, rfl⟩
  have hsz : hp.objs.size ≤ b := by omega
  have hq2 := hq b (I.hok.fresh hsz)
  obtain ⟨G, hG⟩ : ∃ G, G = (hp.push (PySem.W.kdv_tup [])).push (PySem.HandSPX.excO C hp.objs.size) := ⟨_, rfl⟩
  have kk : ∀ c o, hp.get? c = some o → G.get? c = some o := fun c o z => by rw [hG]; exact Heap.get?_push_of_some _ (Heap.get?_push_of_some _ z)
  have at_ : G.get? b = some (PySem.HandSPX.excO C hp.objs.size) := by rw [hG, hbe]; heap_get
  have J : L2.Inv X pins σ (upd H b (exo b C none)) ⟨G, g, dr, tk, os⟩ := I.laid (t' := tk) kk hsz (exo_ok at_)
  have rv : Vals (V.ref b :: ([] ++ dvs)) ([Value.ref b] ++ ds) := .cons rfl hd
  have hl : ([Value.ref b] ++ ds).length = ps.length := by
    have z := rv.length
    rw [FI.len _ _ _ _ hq2] at z
    exact z.symm
  have run := FI.run _ X.stack _ _ ⟨Value.ref b :: [], []⟩ ([Value.ref b] ++ ds) _ _ (fun _ _ _ => False) (hr.make C [] []) (J.env0.make C [] []) (hb _ (Value.ref b :: []) J.kIn hl) rv hq2
  rw [hG, hbe] at run
  refine wpAny_call (PySem.HandSPX.call_own F.excBase_ValueError (fun Y => PySem.HandSPX.refsVE_contains Y bm hbm) (I.kIn _ _ hC) (PySem.W.looks_findIn I.kIn iC) (fun self => PySem.W.bind_fn I.kIn self tI) (by simp) (codeAny_mono run fun r s' hr' => ?_))
  rw [← hG, ← hbe] at hr'
  cases r with
  | error er => exact hx pins σ _ _ er s' J hr'
  | ok fl =>
    cases fl with
    | ret u =>
      obtain ⟨v, H2, os2, bare2, un2, hok2, rv2, ev, d, fs, ea, ed, hd1, q2⟩ := hr'
      subst ev
      obtain ⟨h2, g2, d2, t2, os'⟩ := s'
      rw [← hbe]
      exact ⟨rv2, mk_end (raises_own T.exC T.tyC) I hsz kk un2 hok2 os2 bare2 ea ed hd1 q2⟩
    | next => exact False.elim hr'
    | brk => exact False.elim hr'
    | cont => exact False.elim hr'
end
/-- what is known of an own exception's class: its fields are no attributes of the class -/
structure XcC (K : PySem.W.Frag) (C : Addr) : Prop where
  o : OexC K C
  f : XfC K C
  called : PySem.W.findIn K (.ref C) "called" = some none
  at_ : PySem.W.findIn K (.ref C) "at" = some none
  name : PySem.W.findIn K (.ref C) "name" = some none
  what : PySem.W.findIn K (.ref C) "what" = some none
/-- __init__(self, ..): the fields are g of the arguments -/
def spX (K : PySem.W.Frag) (n : Nat) (g : List V → List (Str × V)) : Sp := fun vs H Q _ => ∃ (a C : Addr) (ws : List V), vs = .ref a :: ws ∧ ws.length = n ∧ XcC K C ∧ H a = some (exo a C none) ∧
  ∀ dx, H dx = none → dx ≠ a → Q .non (upd (upd H dx (exd dx (g ws))) a (exo a C (some dx)))
theorem spX_len {K : PySem.W.Frag} {n : Nat} {g : List V → List (Str × V)} : ∀ vs H Q E, spX K n g vs H Q E → vs.length = n + 1 := fun vs H Q E ⟨a, C, ws, e, l, _⟩ => by rw [e, List.length_cons, l]
theorem vV (K : PySem.W.Frag) : PySem.W.findCls K (.type "ValueError") (.type "type") "__init__" = some (.val (.builtin "ValueError.__init__")) := by kernel_rfl
section
variable {K : PySem.W.Frag} {vs : List V} {H : Hp} {Q : VK} {E : XK} {sp : Sp} {c fl : Str} {n : Nat}
/-- the base: ValueError.__init__(self, called); self.called = called -/
theorem base_read (h : spX K 1 (fun ws => [("called", ws.getD 0 .non)]) vs H Q E) : tSeq (tDrop (tVeI K (tCons (tVar 0) (tCons (tVar 1) tNil)))) (tOst K "called" (tVar 0) (tVar 1)) { nx := fun _ H' => Q .non H', rt := Q } (L2.start ["self", "called"] vs) H := by
  obtain ⟨a, C, ws, rfl, hl, T, ha, hq⟩ := h
  obtain ⟨v, rfl⟩ : ∃ v, ws = [v] := by
    match ws, hl with
    | [v], _ => exact ⟨v, rfl⟩
  refine ⟨.ref a, rfl, v, rfl, a, C, [v], rfl, by simp, T.o, ha, ?_⟩
  exact ⟨v, rfl, .ref a, rfl, a, C, rfl, T.o, T.called, .inl ⟨ha, hq⟩⟩
/-- over it: B.__init__(self, 'c') -/
theorem over_read (h : spX K 0 (fun _ => [("called", .str c)]) vs H Q E) : tDrop (tCall (spX K 1 fun ws => [("called", ws.getD 0 .non)]) [] (fun _ _ _ => False) (tCons (tVar 0) (tCons (tC (.str c)) tNil))) { nx := fun _ H' => Q .non H', rt := Q } (L2.start ["self"] vs) H := by
  obtain ⟨a, C, ws, rfl, hl, T, ha, hq⟩ := h
  obtain rfl : ws = [] := List.length_eq_zero_iff.mp hl
  exact ⟨.ref a, rfl, a, C, [.str c], rfl, rfl, T, ha, fun dx h1 h2 => hq dx h1 h2⟩
theorem noOut {X : Cx} : Passes (L2.CX X.prog X.w) X (fun _ _ _ => False) := fun _ _ _ _ _ _ _ z => by
  obtain ⟨_, _, _, _, _, _, _, _, _, _, _, _, z⟩ := z
  exact z.elim
end
def sRaise (n : Str) (g : List D → List (Str × D)) (w : WA) : WS := fun f ρ cs => w ρ cs (fun ds cs1 => f.ex ⟨n, g ds⟩ ρ cs1) (fun x cs1 => f.ex x ρ cs1)
/-- what the fields are, of values and of data -/
def FldOk (K : PySem.W.Frag) (gV : List V → List (Str × V)) (g : List D → List (Str × D)) : Prop := ∀ (G : Hp) (vs : List V) (ds : List D), RepL K G vs ds → RepX K G (gV vs) (g ds)
theorem mk_heap {H : Hp} {a d C : Addr} {fs : List (Str × V)} (h : H a = none) (hd : d ≠ a) : upd (L2.del (upd (upd (upd H a (exo a C none)) d (exd d fs)) a (exo a C (some d))) a) d (.xd fs) = upd H d (.xd fs) := by
  funext c
  by_cases h1 : c = d
  · subst h1; rw [upd_same, upd_same]
  · rw [upd_ne h1, upd_ne h1]
    by_cases h2 : c = a
    · subst h2; rw [L2.del_same, h]
    · rw [L2.del_ne h2, upd_ne h2, upd_ne h1, upd_ne h2]
section
variable {X : Cx} {W : WX} {K : PySem.W.Frag} {σ : L2.St} {H : Hp} {n : Str} {g : List D → List (Str × D)} {gV : List V → List (Str × V)} {dvs : List V} {dds : List D} {m l : Nat} {w : WA}
theorem raise_ok (hT : XcC K (He.ga K n)) (hg : FldOk K gV g) (hd : ∀ G, RepL K G dvs dds) (hm : m + dds.length = l) (hl : m ≤ 1000) {E : Ends} : lS K W (sRaise n (fun ds => g (ds ++ dds)) w) E σ H → tMkO (He.ga K n) (spX K l gV) dvs (lA K W m w) σ H (fun cls d H' => W cls d σ H') := by
  rintro ⟨F, cs, ρ, f, s, re, hw, pe⟩
  refine ⟨F, cs, ρ, _, _, s, re, hw, fun H1 cs1 vs ds s1 r1 l1 h1 => ?_, pe.px re⟩
  refine ⟨by rw [r1.length, l1]; exact hl, fun a ha => ⟨a, He.ga K n, vs ++ dvs, rfl, by rw [List.length_append, r1.length, l1, (hd H).length]; exact hm, hT, upd_same, fun dx h2 h3 => ?_⟩⟩
  have hdx : H1 dx = none := by rw [upd_ne h3] at h2; exact h2
  refine ⟨rfl, dx, _, upd_same, by rw [upd_ne h3, upd_same], hdx, ?_⟩
  rw [mk_heap ha h3]
  obtain ⟨s2, e2⟩ := s1.new (o := .xd (gV (vs ++ dvs))) hdx
  refine pe.ex _ cs1 σ ρ ⟨n, g (ds ++ dds)⟩ _ (s2.from_ s1.gr) (re.mono (s1.gr.trans s2.gr)) ⟨dx, _, rfl, e2, (hg _ _ _ (r1.append (hd _))).mono s2.gr⟩ h1
variable {x : Str} {fI : Addr} {k : Nat} {fd : FuncData} {ps : List Str} {ds : List Value} {p pos pos' : Pos} {e : Expr} {es : List Expr}
/-- raise C() -/
theorem ds_raise0 (hc : X.calm = true) (tk : Takes X W) (hT : XcC X.K (He.ga X.K x)) (iC : PySem.W.findIn X.K (.ref (He.ga X.K x)) "__init__" = some (some (.ref fI))) (tI : PySem.W.typeIn X.K (.ref fI) = some (.type "function"))
    (FI : FnOk X.prog X.w X.K X.mg X.base (L2.CX X.prog X.w) k fI fd ps (spX X.K l gV)) (hr : Room (k + 1) X.A) (hb : Binds X.K fd ps ds) (hd : Vals dvs ds) (hdd : ∀ G, RepL X.K G dvs dds) (hn : 0 + dds.length = l) (hg : FldOk X.K gV g) (hgl : Gl X x) (hm : X.mg x = some (.ref (He.ga X.K x)))
    (hdb : (x == ("__debug__" : Str)) = false := by decide) : DS X W (.Raise (some (.Call (.Name x p) [] [] pos)) none pos') (sRaise x (fun ds => g (ds ++ dds)) wNil) :=
  PS.imp (ps_raise hc tk (pmk_oex0 hT.o iC tI FI hr hb hd noOut hgl hm hdb)) fun E σ H h => by
    have z := raise_ok (m := 0) hT hg hdd hn (by decide) h
    obtain ⟨F, cs, ρ, P, Z, s, re, hw, pe, px⟩ := z
    exact pe H cs [] [] s .nil rfl hw
end
end DL
namespace DL
open PySem PySem.Spec PyProof.Rows L2 LamX
theorem Un.less {a : Addr} {fs : List Addr} {H H' : Hp} {h h' : Heap} (u : Un (a :: fs) [] H H' h h') (n : h.get? a = none) : Un fs [] H H' h h' := by
  have ne : ∀ {b : Addr} {o : Obj}, h.get? b = some o → b ≠ a := fun {b o} e z => by
    rw [z, n] at e; cases e
  exact {
    keep := fun b o e q nf nx => u.keep b o e q (fun z => (List.mem_cons.mp z).elim (ne e) nf) nx
    slot := fun b o e q f nx => u.slot b o e q (List.mem_cons_of_mem _ f) nx
    free := u.free
    there := u.there
    tups := u.tups
    frzs := u.frzs
    tbls := u.tbls }
/-- what a table tells: each code object bears the name q -/
def TabT (H : Hp) (ps : Array Value) (q : Str) : Prop := TriplesOk ps.toList ∧ ∀ (pos : Pos) (cv : Value), codeAmong pos ps.toList = some cv → ∃ c, cv = .ref c ∧ H c = some (CodeO c q)
section
variable {X : Cx} {pins : List (Addr × Obj)} {σ : L2.St} {H : Hp} {s : Shared}
/-- the object of the lambda -/
abbrev lamO (X : Cx) (params : Arguments) (body : Expr) (scope : Scope) (pm ctv : Value) (c' : Addr) : Obj :=
  PySem.W.kla_obj "<lambda>" (X.env.qual ++ "<lambda>") params body scope (cloFrom X.env.cells scope.names []) pm c' ctv
/-- the heap behind the making: the same, or a code object more -/
inductive LamH (H : Hp) (P c' : Addr) (q : Str) (ps : Array Value) : Hp → Prop
  | hit : H c' = some (CodeO c' q) → LamH H P c' q ps H
  | new {p1 : Array Value} : H c' = none → TriplesOk p1.toList → (∀ (pos : Pos) (cv : Value), codeAmong pos p1.toList = some cv → codeAmong pos ps.toList = some cv ∨ cv = .ref c') → LamH H P c' q ps (upd (upd H P (.tbl p1)) c' (CodeO c' q))
theorem lam_make {c P : Addr} {ps : Array Value} {params : Arguments} {body : Expr} {scope : Scope} {pos : Pos} {E Q : Value → Shared → Prop} (I : Inv X pins σ H s) (TB : TabB X.base X.mg c P) (hcode : X.env.code = .ref c)
    (hP : H P = some (.tbl ps)) (hT : TabT H ps (X.env.qual ++ "<lambda>")) (hdef : defaultsOf params X.env = ([], [])) (hfree : ∀ y ∈ scope.names, y.2 = .free → ∃ c, X.env.cells.lookup y.1 = some c)
    (h : ∀ (f c' : Addr) (pm ctv : Value) (H1 : Hp) (s' : Shared), Inv X pins σ H1 s' → LamH H P c' (X.env.qual ++ "<lambda>") ps H1 → s'.heap.get? f = some (lamO X params body scope pm ctv c') → H1 f = none → f ∉ frs X.stack → Q (.ref f) s') :
    wpAny (model X.prog X.w) X.A (eval (.Lambda params body scope pos) X.env) Q E s := by
  obtain ⟨tOk, tIn⟩ := hT
  have kB : s.heap.BuiltinsAt X.mg P := TB.bm.keeps I.bk
  have kC := TB.code.keeps I.bk
  have kG := I.mod.glob.keeps I.bk
  have obP : s.heap.get? P = some { cls := .none, data := .fields ps } := I.hok P _ hP
  have far : ∀ f, s.heap.objs.size ≤ f → f ∉ frs X.stack := fun f le z => by
    rcases List.mem_cons.mp (I.stkSub _ z) with e | e
    · exact Nat.lt_irrefl _ (Nat.lt_of_lt_of_le (e ▸ I.lt) le)
    · exact I.nofs le e
  apply PySem.W.kla_eval hdef
  rcases hc : codeAmong pos ps.toList with _ | cv
  · apply PySem.W.kla_makeFunction (mg := X.mg) (c := c) (P := P) (ps := ps) (closure_ok hfree) I.ok.glob kG hcode kC obP tOk hc TB.gP kB
    intro c' ctv h' tk ext cge clt crec tab
    obtain ⟨c2, oc, fvs, t, e2, hoc, hd, hv⟩ := crec
    cases e2
    have nc : H c' = none := I.hok.fresh cge
    have le : s.heap.objs.size ≤ h'.objs.size := Nat.le_trans cge (Nat.le_of_lt clt)
    have J := inv_table (t' := tk) (q := X.env.qual ++ "<lambda>") (more := #[rawInt pos.line, rawInt pos.col, .ref c']) (h' := h'.push (lamO X params body scope ((X.mg "__name__").getD .none) ctv c')) I hP
      (fun b o hb e => Heap.get?_push_of_some _ (ext b o hb e)) (Heap.get?_push_of_some _ tab) cge ⟨oc, fvs, t, Heap.get?_push_of_some _ hoc, hd, hv⟩
    have eL : (ps ++ #[rawInt pos.line, rawInt pos.col, .ref c']).toList = ps.toList ++ [rawInt pos.line, rawInt pos.col, .ref c'] := by simp
    refine h h'.objs.size c' _ ctv _ _ J (.new nc ?_ fun p' cv z => ?_) (Heap.get?_push_size _ rfl) ?_ (far _ le)
    · rw [eL]; exact PySem.TriplesOk_snoc _ _ _ _ tOk
    · rw [eL] at z; exact among_app _ tOk z
    · have a1 : h'.objs.size ≠ c' := Nat.ne_of_gt clt
      have a2 : h'.objs.size ≠ P := Nat.ne_of_gt (Nat.lt_of_lt_of_le (Heap.lt_size obP) le)
      rw [upd_ne a1, upd_ne a2]
      exact I.hok.fresh le
  · obtain ⟨c', rfl, hco⟩ := tIn pos cv hc
    apply PySem.W.kla_makeFunctionHit (mg := X.mg) (c := c) (P := P) (ps := ps) (closure_ok hfree) I.ok.glob kG hcode kC obP tOk hc kB
    intro ctv h' tk ext le
    refine h h'.objs.size c' _ ctv H _ (I.kept (t' := tk) fun b o e => Heap.get?_push_of_some _ (ext b o e)) (.hit hco) (Heap.get?_push_size _ rfl) (I.hok.fresh le) (far _ le)
end
structure Thunk (P : Program) (w : World) (K : PySem.W.Frag) (mg : Str → Option Value) (base : Heap) (k : Nat) (fs : List Addr) (H : Hp) (s : Shared) (f c' : Addr) (q : Str) (t : XK → Hp → VK → Prop) : Prop where
  obj : ∃ o fd, s.heap.get? f = some o ∧ o.data = .func fd ∧ o.cls = .type "function" ∧ o.dict = none ∧ o.slots = #[]
  no : H f = none
  nf : f ∉ fs
  run : ∀ (A : Around) (outer : List PySem.Env) (s1 : Shared) (H1 : Hp) (Q : VK) (E : XK), Room k A → Env0 P w K mg base A outer s1 H1 → Un fs [] H H1 s.heap s1.heap → H1 c' = some (CodeO c' q) → t E H1 Q →
    codeAny (model P w) A (.call (.ref f) ⟨[], []⟩) (CR (L2.CX P w) outer P w H1 s1 Q E) s1
theorem lam_thunk {X : Cx} {pins : List (Addr × Obj)} {σ : L2.St} {H : Hp} {s : Shared} {f c' : Addr} {pm ctv : Value} {params : Arguments} {body : Expr} {scope : Scope} {k : Nat} {t : XK → TE} (I : Inv X pins σ H s) (L : LamS X.env.scope scope)
    (hf : s.heap.get? f = some (lamO X params body scope pm ctv c')) (hfn : H f = none) (hfr : f ∉ frs X.stack)
    (hbind : ∀ (q : Str) (cl : List (Str × Addr)) (pm cv ctv : Value), bindArgs (PySem.W.kla_fn "<lambda>" q params body scope cl pm cv ctv) ⟨[], []⟩ = pure [])
    (hbody : ∀ (A : Around) (outer : List PySem.Env) (s : Shared) (H : Hp) (E : XK), Room k (A.deeper (lamEnv X scope s.heap.objs.size f c')) → PE (lamCx X A outer s H E scope f c') body (t E)) :
    Thunk X.prog X.w X.K X.mg X.base (k + 1) (frs X.stack) H s f c' (X.env.qual ++ "<lambda>") (fun E H Q => t E σ H Q) := by
  refine ⟨⟨_, _, hf, rfl, rfl, rfl, rfl⟩, hfn, hfr, fun A outer s1 H1 Q E hr e0 un hc ht => ?_⟩
  have of1 := un.keep f _ hf hfn hfr (by simp)
  obtain ⟨⟨oc, fvs, tx, hoc, hdc, hvc⟩, _, _⟩ := e0.hok c' _ hc
  have lim : s1.heap.NoLimit := e0.mod.nolimit.keeps fun b o e => (e0.bs b o e).1
  refine PySem.W.kla_callFunE hr.depth of1 rfl L.co L.gen rfl ⟨c', oc, fvs, tx, rfl, hoc, hdc, hvc⟩ ?_
  rw [hbind]
  refine wpAny_pure (wpAny_newFunctionEnv (fun y hy => (L.own y hy).2) (fun y hy => absurd hy (by simp)) (fun h1 hns hsb => ⟨lim.fresh _ hsb, ?_⟩) L.kind)
  have kp : ∀ b o, s1.heap.get? b = some o → h1.get? b = some o := fun b o e => hsb.extBut b o (Nat.ne_of_lt (Heap.lt_size e)) (Heap.get?_push_of_some _ e)
  have J := lam_start2 (E := E) (f := f) (c' := c') (tk := s1.toks + ([] : List (Str × Value)).length) I L e0 hr.hd un hns kp
  refine PySem.W.kla_codeExpr (wpAny_mono ((hbody _ _ s1 H1 E (hr.deeper _)).run [] _ _ H1 Q J ht) (fun v s' hq => ?_) fun e s' hq => hq)
  obtain ⟨w', H', J', rv, q⟩ := hq
  exact ⟨w', H', J'.os, J'.bare, J'.base, J'.hok, rv, q⟩
/-- x(), x a slot that holds the thunk; Z: the def that got it, entered at s -/
theorem pe_thunk {Z : Cx} {W : WX} {i k : Nat} {a : Str} {f c' : Addr} {q : Str} {t : XK → Hp → VK → Prop} {p1 p2 : Pos} (th : Thunk Z.prog Z.w Z.K Z.mg Z.base k Z.fs Z.H_0 Z.s_0 f c' q t) (hex : Z.ex = []) (tk : Takes Z W) (hr : Room k Z.A)
    (hN : Z.N[i]? = some a) (hv : Vis Z.env.scope a) (hd : (a == ("__debug__" : Str)) = false := by decide) (hcd : (a == ("__classdict__" : Str)) = false := by decide) :
    PE Z (.Call (.Name a p1) [] [] p2) (fun σ H Q => σ[i]? = some (some (.ref f)) ∧ H c' = some (CodeO c' q) ∧ ∃ (E' : XK) (Q' : VK), (∀ c d H, E' c d H → W c d σ H) ∧ (∀ v H, Q' v H → Q v H) ∧ t E' H Q') := by
  refine ⟨fun pins s σ H Q I h => ?_⟩
  obtain ⟨hs, hc, E', Q', hE, hQ, ht⟩ := h
  refine wpAny_Call_Name_kw (thn ((pe_var (pos := p1) (i := i) hN hv hd hcd).run pins s σ H (fun v H1 => v = .ref f ∧ H1 = H) I ⟨.ref f, hs, rfl, rfl⟩) fun u s1 ⟨v, H1, I1, r1, q1⟩ => ?_)
  obtain ⟨rfl, rfl⟩ := q1
  obtain rfl : u = Value.ref f := r1
  have un : Un Z.fs [] Z.H_0 H1 Z.s_0.heap s1.heap := hex ▸ I1.base
  obtain ⟨o, fd, o1, o2, o3, o4, o5⟩ := th.obj
  obtain ⟨oc, od, odt, osl⟩ := o
  subst o2 o3 o4 o5
  have of1 := un.keep f _ o1 th.no th.nf (by simp)
  refine PySem.W.callWith_F0 ⟨_, _, _, _, of1⟩ (wpAny_call (codeAny_mono (th.run Z.A Z.stack s1 H1 Q' E' hr I1.env0 un hc ht) fun r s' hq => ?_))
  cases r with
  | error e => exact tk e s' (XE.of_call I1 (fun c d H z => hE c d H z) hq)
  | ok fl => cases fl <;> first | exact (fun ⟨v, H', J, rv, z⟩ => ⟨v, H', J, rv, hQ v H' z⟩ : EP Z pins σ Q' _ _ → EP Z pins σ Q _ _) (I1.after hq) | exact False.elim hq
/-- TT: what it makes of the thunk's reading; it wants j rooms more than the thunk -/
def TkOk (P : Program) (w : World) (K : PySem.W.Frag) (mg : Str → Option Value) (base : Heap) (j : Nat) (g : Addr) (TT : (XK → Hp → VK → Prop) → XK → Hp → VK → Prop) : Prop :=
  ∀ (k : Nat) (A : Around) (outer : List PySem.Env) (s : Shared) (H : Hp) (f c' : Addr) (q : Str) (t : XK → Hp → VK → Prop) (Q : VK) (E : XK), Room (k + j) A → Env0 P w K mg base A outer s H → Thunk P w K mg base k (frs outer) H s f c' q t → H c' = some (CodeO c' q) → TT t E H Q →
    codeAny (model P w) A (.call (.ref g) ⟨[.ref f], []⟩) (CR (L2.CX P w) outer P w H s Q E) s
theorem tk_of {P : Program} {w : World} {K : PySem.W.Frag} {mg : Str → Option Value} {base : Heap} {j : Nat} {x : Str} {params : Arguments} {body : List Stmt} {scope : Scope} {g : Addr} {fd : FuncData} {TT : (XK → Hp → VK → Prop) → XK → Hp → VK → Prop} {N : List Str} {a : Str}
    (F : FunD K x x params body scope [] [] g fd) (S : FnScope N [a] scope) (hb : Binds K fd [a] [])
    (hbody : ∀ (k : Nat) (cdv : Value) (A : Around) (outer : List PySem.Env) (s : Shared) (H : Hp) (f c' : Addr) (q : Str) (t : XK → Hp → VK → Prop) (Q : VK) (E : XK), Room (k + j) (A.deeper (envOfC x scope s.heap.objs.size g cdv)) → Thunk P w K mg base k (frs outer) H s f c' q t → H c' = some (CodeO c' q) → TT t E H Q →
      ∃ u, PSs (cxD P w K mg base N x scope g cdv A outer s H E) body u ∧ u { nx := fun _ H' => Q .non H', rt := Q } (L2.start N [.ref f]) H) : TkOk P w K mg base (j + 1) g TT := by
  intro k A outer s H f c' q t Q E hr e0 th hc h
  obtain ⟨oc, od, dV, kV, doc, pm, an, cdv, ct, osl, rfl, lk, hcd, _, _⟩ := F.ex
  have kin : K.In s.heap := e0.mod.kin.keeps fun b o e => (e0.bs b o e).1
  exact run_ofS (k := k + j) (us := [.ref f]) (vs := [.ref f]) lk hcd S hr e0 (hb s [.ref f] kin rfl) (.cons rfl .nil) rfl fun hr' => hbody k cdv A outer s H f c' q t Q E hr' th hc h
section
variable (K : PySem.W.Frag) (Wout : WX) (D : Ends)
/-- the ends behind a clause: its name goes -/
def endsN : Option Nat → Ends
  | none => D
  | some i => { nx := fun σ H => D.nx (σ.set i none) H, rt := D.rt, bk := fun σ H => D.bk (σ.set i none) H, ct := fun σ H => D.ct (σ.set i none) H }
def slotN (a : Addr) (σ : L2.St) : Option Nat → L2.St
  | none => σ
  | some i => σ.set i (some (.ref a))
/-- what the clauses wish, one behind another: the class, the name's slot, the suite -/
def wCls : List (Value × Option Nat × (Addr → Value → Option Addr → TS)) → WX
  | [] => Wout
  | (c, oi, ts) :: r => fun cls d σ H => ∃ b, PySem.W.exmOne K cls c = some b ∧ (b = true → ∀ a, H a = none → ts a cls d (endsN D oi) (slotN a σ oi) H) ∧ (b = false → wCls r cls d σ H)
end
/-- a clause's name -/
inductive NameN (X : Cx) : Option Str → Option Nat → Prop
  | no : NameN X none none
  | yes {n : Str} {i : Nat} : X.N[i]? = some n → X.env.kindOf n = some .local → NameN X (some n) (some i)
inductive ClsOk (X : Cx) : List ExceptHandler → List (Value × Option Nat × (Addr → Value → Option Addr → TS)) → Prop
  | nil : ClsOk X [] []
  | cons {x : Str} {c : Value} {on : Option Str} {oi : Option Nat} {ts : Addr → Value → Option Addr → TS} {b0 : Stmt} {su : List Stmt} {p1 p2 : Pos} {hs : List ExceptHandler} {l : List (Value × Option Nat × (Addr → Value → Option Addr → TS))} (hc : Names X x c) (hn : NameN X on oi)
      (hsu : ∀ (a : Addr) (ob : Obj) (cls : Value) (d : Option Addr) (pn : List (Addr × Obj)), Zc cls d ob → (∃ vs, ob.data = .fields vs) → PSs (X.suite a ((a, ob) :: pn)) (b0 :: su) (ts a cls d)) (r : ClsOk X hs l) :
      ClsOk X (.ExceptHandler (some (.Name x p1)) on (b0 :: su) p2 :: hs) ((c, oi, ts) :: l)
section
variable {X : Cx} {body : List Stmt} {h0 : ExceptHandler} {hs : List ExceptHandler} {l : List (Value × Option Nat × (Addr → Value → Option Addr → TS))} {pos : Pos} {tb : WX → TS} {Wout : WX}
/-- behind a suite with a name: the context of the whole statement again -/
theorem suite_end {pins : List (Addr × Obj)} {D : Ends} {a : Addr} {ob : Obj} {i : Nat} {n : Str} {f : Flow} {s6 : Shared} {p2 : Pos} (ok : X.Ok) (hN : X.N.Nodup) (hi : X.N[i]? = some n) (hk : X.env.kindOf n = some .local)
    (h : SP (X.suite a ((a, ob) :: (X.pn ++ pins))) [] (endsN D (some i)) f s6) : wpAny (model X.prog X.w) X.A (do bindName X.env n .none; unbindBehindTheSuite X.env n p2) (fun _ s7 => SP X pins D f s7) X.xe s6 := by
  cases f with
  | ret u => obtain ⟨v, σ6, H6, S6, r6, q6⟩ := h; exact gone_ok (S6.unsuite ok) hN hi hk fun s7 J => ⟨_, _, _, J, r6, q6⟩
  | next => obtain ⟨σ6, H6, S6, q6⟩ := h; exact gone_ok (S6.unsuite ok) hN hi hk fun s7 J => ⟨_, _, J, q6⟩
  | brk => obtain ⟨σ6, H6, S6, q6⟩ := h; exact gone_ok (S6.unsuite ok) hN hi hk fun s7 J => ⟨_, _, J, q6⟩
  | cont => obtain ⟨σ6, H6, S6, q6⟩ := h; exact gone_ok (S6.unsuite ok) hN hi hk fun s7 J => ⟨_, _, J, q6⟩
theorem ps_try_cls (hst : X.stack = X.env :: X.outer) (hf : X.env.frame = some X.env.locals) (hN : X.N.Nodup) (tk : Takes X Wout)
    (hb : ∀ (W : WX) (pn : List (Addr × Obj)) (xe : Value → Shared → Prop), Takes (X.tr pn xe) W → PassesOwn (model X.prog X.w) X.A X.env xe → PSs (X.tr pn xe) body (tb W))
    (hh : ClsOk X (h0 :: hs) l) : PS X (.Try body (h0 :: hs) [] [] pos) (fun D σ H => tb (wCls X.K Wout D l) D σ H) := by
  refine ⟨fun pins s σ H D I h => ?_⟩
  have ok := I.ok
  have hfr : X.A.frames = some (X.env :: X.outer) := by rw [ok.frames, hst]
  apply wpAny_Try_except
  let xe' : Value → Shared → Prop := fun e s₁ => wpAny (model X.prog X.w) X.A (noteFrame e X.env) (fun _ s₂ => wpAny (model X.prog X.w) X.A (setFlight e none)
    (fun _ s₃ => wpAny (model X.prog X.w) X.A (handleBy e X.env (h0 :: hs)) (SP X pins D) X.xe s₃) X.xe s₂) X.xe s₁
  have tk' : Takes (X.tr (X.pn ++ pins) xe') (wCls X.K Wout D l) := by
    rintro u s' ⟨a, B, sI, pins', σ', H', cls, d, rfl, J', nb, up, sky, na, os, ag, w⟩
    have J : Inv X pins σ' H' sI := J'.ofTry ok
    have sk : Sky B (X.env :: X.outer) a (Zc cls d) X.env.locals s'.heap := hst ▸ sky
    refine Sky.land Zc.steady hfr hf sk fun h3 fl3 up3 => ?_
    have J3 : Inv X pins σ' H' { s' with heap := h3 } := J.landed nb fl3.1 (up.trans up3) os ag
    obtain ⟨ob3, vs3, hob3, hz3, hd3⟩ := fl3.there
    have nfr : a ∉ frs (X.env :: X.outer) := fun hm => by
      obtain ⟨_, o', e', hnf⟩ := fl3.2.2.1.mem hm
      rw [hob3] at e'; cases e'
      exact hnf _ hd3
    have nL : a ≠ X.env.locals := fun z => nfr (List.mem_filterMap.mpr ⟨X.env, List.mem_cons_self, by rw [hf, z]⟩)
    have nF : a ∉ X.fs := fun hm => by
      obtain ⟨e, he, q⟩ := List.mem_filterMap.mp hm
      exact nfr (List.mem_filterMap.mpr ⟨e, List.mem_cons_of_mem _ he, q⟩)
    have S3 := J3.suite hob3 hd3 na nL nF
    have go : ∀ {hs' : List ExceptHandler} {l' : List (Value × Option Nat × (Addr → Value → Option Addr → TS))}, ClsOk X hs' l' → wCls X.K Wout D l' cls d σ' H' →
        wpAny (model X.prog X.w) X.A (handleBy (.ref a) X.env hs') (SP X pins D) X.xe { s' with heap := h3 } := by
      intro hs' l' hk
      induction hk with
      | nil =>
        intro w
        apply wpAny_handleBy_nil
        obtain ⟨k1, k2, k3, ob, vs, T, oT, ts', hob, hz, hd, h1, hr⟩ := id fl3
        unfold PySem.passOn
        refine wpAny_bind (wpAny_field hob hd h1 ?_)
        rw [if_neg (show ¬ ((Value.ref T == Value.none) = true) from by simp)]
        have fin : wpAny (model X.prog X.w) X.A (setFlight (.ref a) X.env.frame) (fun _ s4 => wpAny (model X.prog X.w) X.A (throw (.ref a) : Sem Flow) (SP X pins D) X.xe s4) X.xe { s' with heap := h3 } := by
          rw [hf]
          refine HandSPX.setFlight_upZ fl3 fun h4 hh4 up4 => wpAny_throw (tk _ _ ⟨a, B, sI, pins, σ', H', cls, d, rfl, J, nb, (up.trans up3).trans up4, ?_, na, os, ag, w⟩)
          rw [hst]; exact .inr (.inr hh4)
        first
          | exact wpAny_bind (wpAny_pure (wpAny_bind fin))
          | exact wpAny_bind fin
      | @cons x c on oi ts b0 su p1 p2 hs2 l2 hc hn hsu r ih =>
        rintro ⟨b, hb1, hyes, hnot⟩
        refine wpAny_handleBy_cons (codeAny_handlers_test ?_) (by intro q; cases q)
        have LT : PySem.W.Looks (model X.prog X.w) h3 (typeOf (.ref a)) cls := fun A Q E s k q => wpAny_typeOf_ref (k _ _ hob3) (by rw [hz3.1]; exact q)
        have LM := PySem.W.exm_one (M := model X.prog X.w) J3.kIn LT hb1
        have test : ∀ {Q E : Value → Shared → Prop}, Q c { s' with heap := h3 } → wpAny (model X.prog X.w) (X.A.mark (some (.ref a))) (eval (.Name x p1) X.env) Q E { s' with heap := h3 } := fun {Q E} q => by
          obtain ⟨hg, hdbg, hm | ⟨hm, hv, hnn⟩⟩ := hc
          · exact ld_glob (X := X.suite a ((a, ob3) :: (X.pn ++ pins))) S3 hg hm q hdbg
          · exact ld_blt (X := X.suite a ((a, ob3) :: (X.pn ++ pins))) S3 hg hm hv q hnn hdbg
        refine test (LM.here ?_)
        cases b with
        | false => exact ih (hnot rfl)
        | true =>
          cases hn with
          | no =>
            apply codeAny_handlers_suite
            refine HandSPX.lands_againZ fl3 fun h4 fl4 up4 => ?_
            have J4 : Inv X pins σ' H' { s' with heap := h4 } := J.landed nb fl4.1 ((up.trans up3).trans up4) os ag
            obtain ⟨ob4, vs4, hob4, hz4, hd4⟩ := fl4.there
            refine wpAny_mono ((hsu a ob4 cls d (X.pn ++ pins) hz4 ⟨_, hd4⟩).run [] _ σ' H' (endsN D none) (J4.suite hob4 hd4 na nL nF) (hyes rfl a na)) (fun f s6 hsp => ?_) (fun _ _ z => False.elim z)
            cases f with
            | ret u => obtain ⟨v, σ6, H6, S6, r6, q6⟩ := hsp; exact ⟨_, _, _, S6.unsuite ok, r6, q6⟩
            | next => obtain ⟨σ6, H6, S6, q6⟩ := hsp; exact ⟨_, _, S6.unsuite ok, q6⟩
            | brk => obtain ⟨σ6, H6, S6, q6⟩ := hsp; exact ⟨_, _, S6.unsuite ok, q6⟩
            | cont => obtain ⟨σ6, H6, S6, q6⟩ := hsp; exact ⟨_, _, S6.unsuite ok, q6⟩
          | yes hi hk =>
            apply codeAny_handlers_suite_as
            refine HandSPX.lands_againZ fl3 fun h4 fl4 up4 => ?_
            have J4 : Inv X pins σ' H' { s' with heap := h4 } := J.landed nb fl4.1 ((up.trans up3).trans up4) os ag
            obtain ⟨ob4, vs4, hob4, hz4, hd4⟩ := fl4.there
            refine store_ok (X := X.suite a ((a, ob4) :: (X.pn ++ pins))) (v := .ref a) (J4.suite hob4 hd4 na nL nF) hN hi (.inl hk) rfl (fun s5 S5 => ?_) (.inr hk)
            refine wpAny_mono ((hsu a ob4 cls d (X.pn ++ pins) hz4 ⟨_, hd4⟩).run [] s5 _ H' (endsN D (some _)) S5 (hyes rfl a na)) (fun f s6 hsp => ?_) (fun _ _ z => False.elim z)
            exact suite_end (D := D) ok hN hi hk hsp
    exact go hh w
  refine wpAny_mono ((hb (wCls X.K Wout D l) (X.pn ++ pins) xe' tk' PassesOwn.looking).run [] s σ H D (I.toTry _) h) (fun f s1 hsp => ?_) (fun e s1 he => he)
  cases f with
  | ret u => obtain ⟨v, σ', H', J', r, q⟩ := hsp; exact ⟨v, σ', H', J'.ofTry ok, r, q⟩
  | brk => obtain ⟨σ', H', J', q⟩ := hsp; exact ⟨σ', H', J'.ofTry ok, q⟩
  | cont => obtain ⟨σ', H', J', q⟩ := hsp; exact ⟨σ', H', J'.ofTry ok, q⟩
  | next => obtain ⟨σ', H', J', q⟩ := hsp; exact wpAny_execs_nil ⟨σ', H', J'.ofTry ok, q⟩
end
end DL
namespace DL
open PySem PySem.Spec PyProof.Rows L2 LamX
/-- TT lifted -/
def TkD (K : PySem.W.Frag) (TT : (XK → Hp → VK → Prop) → XK → Hp → VK → Prop) (T : DL.WE → DL.WE) : Prop :=
  ∀ (σ : L2.St) (E : XK) (we : DL.WE) (H : Hp) (Q : VK), lE K (fun cls d _ H => E cls d H) (T we) σ H Q → TT (fun E H' Q' => lE K (fun cls d _ H => E cls d H) we σ H' Q') E H Q
def wLam (p : Addr) (q : Str) (T : DL.WE → DL.WE) (we : DL.WE) : DL.WE := fun ρ cs P Z => look p cs = some (.tbl q) ∧ T we ρ cs P Z
theorem tbl_at {K : PySem.W.Frag} {F G0 H : Hp} {cs : Cs} {p : Addr} {q : Str} (s : Sta K F G0 cs H) (h : look p cs = some (.tbl q)) : ∃ ps, H p = some (.tbl ps) ∧ TabT (pur F cs H) ps q := by
  obtain ⟨o, e, z⟩ := s.look h
  cases o <;> first | exact ⟨_, e, z⟩ | exact z.elim
theorem TabT.le {H H' : Hp} {ps : Array Value} {q : Str} (t : TabT H ps q) (e : Ex H H') : TabT H' ps q := ⟨t.1, fun pos cv hc => by
  obtain ⟨c, e1, e2⟩ := t.2 pos cv hc
  exact ⟨c, e1, e _ _ e2⟩⟩
theorem sta_lam {K : PySem.W.Frag} {F H H1 : Hp} {cs : Cs} {p c' : Addr} {q : Str} {ps : Array Value} (s : Sta K F (pur F cs H) cs H) (hl : look p cs = some (.tbl q)) (hp : H p = some (.tbl ps)) (t : TabT (pur F cs H) ps q) (h : LamH H p c' q ps H1) :
    Sta K F (pur F cs H) cs H1 ∧ H1 c' = some (CodeO c' q) := by
  cases h with
  | hit e => exact ⟨s, e⟩
  | @new p1 hn hok hin =>
    obtain ⟨s1, e1⟩ := s.new (o := CodeO c' q) hn
    have hpc : p ≠ c' := ne_of_none hp hn
    have s2 := s1.put hl (m' := .tbl q) (o' := .tbl p1) ⟨hok, fun pos cv hc => by
      rcases hin pos cv hc with z | z
      · obtain ⟨c, a1, a2⟩ := t.2 pos cv z
        exact ⟨c, a1, s1.gr _ _ a2⟩
      · exact ⟨c', z, e1⟩⟩
    rw [put_look hl] at s2
    have e2 : upd (upd H c' (CodeO c' q)) p (.tbl p1) = upd (upd H p (.tbl p1)) c' (CodeO c' q) := by
      funext b
      by_cases h1 : b = p
      · subst h1; rw [upd_same, upd_ne hpc, upd_same]
      · by_cases h2 : b = c'
        · subst h2; rw [upd_ne h1, upd_same, upd_same]
        · rw [upd_ne h1, upd_ne h2, upd_ne h2, upd_ne h1]
    rw [e2] at s2
    exact ⟨s2.from_ s1.gr, upd_same⟩
section
variable {X : Cx} {W : WX}
theorem d_lam {j k : Nat} {TT : (XK → Hp → VK → Prop) → XK → Hp → VK → Prop} {T : DL.WE → DL.WE} {we : DL.WE} {g c pt : Addr} {q x : Str} {params : Arguments} {body : Expr} {scope : Scope} {p lpos pos : Pos} (tko : TkOk X.prog X.w X.K X.mg X.base j g TT) (td : TkD X.K TT T) (tk : Takes X W) (hr : Room (k + 1 + j) X.A)
    (hg : Gl X x) (hm : X.mg x = some (.ref g)) (hk : PySem.W.keepIn X.K (.ref g) = true) (TB : TabB X.base X.mg c pt) (hcode : X.env.code = .ref c) (L : LamS X.env.scope scope)
    (hbody : ∀ (A : Around) (outer : List PySem.Env) (s : Shared) (H : Hp) (E : XK) (f c' : Addr), Room k (A.deeper (lamEnv X scope s.heap.objs.size f c')) → DE (lamCx X A outer s H E scope f c') (fun cls d _ H => E cls d H) body we)
    (hq : X.env.qual ++ "<lambda>" = q := by rfl) (hdef : defaultsOf params X.env = ([], []) := by rfl)
    (hbind : ∀ (q : Str) (cl : List (Str × Addr)) (pm cv ctv : Value), bindArgs (PySem.W.kla_fn "<lambda>" q params body scope cl pm cv ctv) ⟨[], []⟩ = pure [] := by intros; rfl) (hdb : (x == ("__debug__" : Str)) = false := by decide) :
    DE X W (.Call (.Name x p) [.Lambda params body scope lpos] [] pos) (wLam pt q T we) := by
  refine ⟨fun pins s σ H Q I h => ?_⟩
  obtain ⟨F, cs, ρ, P, Z, st, re, ⟨hl, hw⟩, pe, px⟩ := h
  obtain ⟨ps, ht, tt⟩ := tbl_at st hl
  refine wpAny_Call_Name_kw (ld_glob I hg hm ?_ hdb)
  refine PySem.W.callWith_K (h₀ := X.base) I.ok.mod.kin hk ?_ (by rfl) (by rfl)
  show wpAny _ _ (spliced ((false, eval (.Lambda params body scope lpos) X.env) :: backTo pos (starEach [] X.env))) _ _ s
  refine Calls.spliced_cons (lam_make I TB hcode ht (hq ▸ tt.le pur_le) hdef (L.has I.ok) fun f c' pm ctv H1 s' I1 lh hf hfn hfr => Calls.spliced_nil ⟨I1.kIn, ?_⟩)
  rw [hq] at lh
  obtain ⟨s1, hc⟩ := sta_lam st hl ht tt lh
  have th := lam_thunk (k := k) (t := fun E => lE X.K (fun cls d _ H => E cls d H) we) I1 L hf hfn hfr hbind fun A outer s0 H0 E hr' => hbody A outer s0 H0 E f c' hr'
  have run := tko (k + 1) X.A X.stack s' H1 f c' (X.env.qual ++ "<lambda>") _ Q (L2.WE W σ) hr I1.env0 th (hq ▸ hc) (td σ (L2.WE W σ) we H1 Q ⟨F, cs, ρ, P, Z, s1.self, re.mono s1.gr, hw, pe.le s1.gr, px.le s1.gr⟩)
  refine wpAny_call (codeAny_mono run fun r s2 hq2 => ?_)
  cases r with
  | error e => exact passAt tk σ pins H1 s' e s2 I1 hq2
  | ok fl => cases fl <;> first | exact I1.after hq2 | exact False.elim hq2
end
/-- the first clause that takes cls -/
def CaughtBy (K : PySem.W.Frag) (cls : Value) : List Value → Prop
  | [] => False
  | c :: r => ∃ b, PySem.W.exmOne K cls c = some b ∧ (b = false → CaughtBy K cls r)
/-- a caught exception, its field f -/
def FldAt (K : PySem.W.Frag) (f : Str) (cls : Value) (d : Option Addr) (H : Hp) (v : V) : Prop := ∃ (C dd : Addr) (fs : List (Str × V)), cls = .ref C ∧ XfC K C ∧ PySem.W.findIn K (.ref C) f = some none ∧ d = some dd ∧ H dd = some (.xd fs) ∧ fs.lookup f = some v
def retT (K : PySem.W.Frag) (vs : List V) (H : Hp) (Q : VK) : Prop := ∀ p, H p = none → Q (.ref p) (upd H p (.tup vs))
def TTask (K : PySem.W.Frag) (cl : List Value) (t : XK → Hp → VK → Prop) (_ : XK) (H : Hp) (Q : VK) : Prop :=
  ∀ p, H p = none → t (fun cls d H' => CaughtBy K cls cl ∧ ∃ v, FldAt K "called" cls d H' v ∧ retT K [.non, v] H' Q) (upd H p (.tup [.non, .str ""])) fun v H' => retT K [v, .str ""] H' Q
section
variable {P : Program} {w : World} {K : PySem.W.Frag} {mg : Str → Option Value} {base : Heap}
theorem tk_ask {x a to wo e c1 c2 c3 : Str} {params : Arguments} {scope : Scope} {g : Addr} {fd : FuncData} {C1 C2 C3 : Addr} {k1 k2 k3 : Nat} {p1 p2 p3 p4 p5 p6 p7 p8 p9 q1 q2 q3 q4 q5 q6 q7 q8 q9 r1 r2 r3 r4 r5 r6 r7 r8 r9 p10 p11 p12 p13 p14 p15 p16 : Pos} {j1 j2 : Nat}
    (F : FunD K x x params [.Assign [.Tuple [.Name to p1, .Name wo p2] k1 p3] (.Tuple [.Constant .none j1 p4, .Constant (.str "") j2 p5] k2 p6) p7,
      .Try [.Assign [.Name to p8] (.Call (.Name a p9) [] [] p10) p11]
        [.ExceptHandler (some (.Name c1 q1)) (some e) [.Assign [.Name wo q2] (.Attribute (.Name e q3) "called" q4) q5] q6, .ExceptHandler (some (.Name c2 q7)) (some e) [.Assign [.Name wo q8] (.Attribute (.Name e q9) "called" r1) r2] r3,
         .ExceptHandler (some (.Name c3 r4)) (some e) [.Assign [.Name wo r5] (.Attribute (.Name e r6) "called" r7) r8] r9] [] [] p12,
      Stmt.Return (some (.Tuple [.Name to p13, .Name wo p14] k3 p15)) p16] scope [] [] g fd)
    (S : FnScope [a, to, wo, e] [a] scope) (hb : Binds K fd [a] []) (l1 : scope.names.lookup a = some .local) (l2 : scope.names.lookup to = some .local) (l3 : scope.names.lookup wo = some .local) (l4 : scope.names.lookup e = some .local)
    (g1 : scope.names.lookup c1 = some .globalImplicit) (g2 : scope.names.lookup c2 = some .globalImplicit) (g3 : scope.names.lookup c3 = some .globalImplicit) (m1 : mg c1 = some (.ref C1)) (m2 : mg c2 = some (.ref C2)) (m3 : mg c3 = some (.ref C3))
    (hd : ∀ y ∈ [a, to, wo, e, c1, c2, c3], (y == ("__debug__" : Str)) = false ∧ (y == ("__classdict__" : Str)) = false) (hN : [a, to, wo, e].Nodup)
    (hsw : ∀ env : PySem.Env, env.scope = scope → swappedStores [.Tuple [.Name to p1, .Name wo p2] k1 p3] (.Tuple [.Constant .none j1 p4, .Constant (.str "") j2 p5] k2 p6) env = pure none) :
    TkOk P w K mg base 1 g (TTask K [.ref C1, .ref C2, .ref C3]) := by
  refine tk_of (j := 0) F S hb fun k cdv A outer s H f c' q t Q E hr th hc h => ?_
  have d1 := hd a (by simp)
  have suite : ∀ (ob : Obj) (ax : Addr) (cls : Value) (d : Option Addr) (pn : List (Addr × Obj)) (z1 z2 z3 z4 : Pos), Zc cls d ob → (∃ vs, ob.data = .fields vs) →
      PSs ((cxD P w K mg base [a, to, wo, e] x scope g cdv A outer s H E).suite ax ((ax, ob) :: pn)) [.Assign [.Name wo z1] (.Attribute (.Name e z2) "called" z3) z4] (fun D σ H => σ[3]? = some (some (.ref ax)) ∧ ∃ v, FldAt K "called" cls d H v ∧ D.nx (σ.set 2 (some v)) H) := by
    intro ob ax cls d pn z1 z2 z3 z4 hz hf
    refine ⟨fun pins s1 σ1 H1 D I hw => ?_⟩
    obtain ⟨hs3, v, ⟨C, dd, fs, rfl, xf, hno, rfl, hdd, hl⟩, hn⟩ := hw
    refine (pss_one (ps_set (i := 2) hN rfl (.inl l3) (pe_xf xf hno hz hf (pe_var (i := 3) rfl (.inl l4) (hd e (by simp)).1 (hd e (by simp)).2)) (hf := .inr l3))).run pins s1 σ1 H1 D I ?_
    exact ⟨.ref ax, hs3, rfl, rfl, dd, fs, v, rfl, hdd, hl, hn⟩
  refine ⟨_, pss_cons (ps_asg (pe_tup (pa_cons pe_non (pa_cons pe_str pa_nil))) (pg_tup rfl (pgs_cons (pg_name (i := 1) hN rfl (.inl l2) (.inr l2)) (pgs_cons (pg_name (i := 2) hN rfl (.inl l3) (.inr l3)) pgs_nil))) (hw := hsw _ rfl))
    (pss_cons (ps_try_cls rfl rfl hN takesD (fun W pn xe tk _ => pss_one (ps_set (i := 1) hN rfl (.inl l2) (pe_thunk (i := 0) (W := W) th rfl tk (hr.mono (by omega)) rfl (.inl l1) d1.1 d1.2) (hf := .inr l2)))
      (.cons ⟨g1, (hd c1 (by simp)).1, .inl m1⟩ (.yes (i := 3) rfl l4) (fun ax ob cls d pn hz hf => suite ob ax cls d pn _ _ _ _ hz hf)
        (.cons ⟨g2, (hd c2 (by simp)).1, .inl m2⟩ (.yes (i := 3) rfl l4) (fun ax ob cls d pn hz hf => suite ob ax cls d pn _ _ _ _ hz hf)
          (.cons ⟨g3, (hd c3 (by simp)).1, .inl m3⟩ (.yes (i := 3) rfl l4) (fun ax ob cls d pn hz hf => suite ob ax cls d pn _ _ _ _ hz hf) .nil))))
      (pss_one (ps_ret (pe_tup (pa_cons (pe_var (i := 1) rfl (.inl l2) (hd to (by simp)).1 (hd to (by simp)).2) (pa_cons (pe_var (i := 2) rfl (.inl l3) (hd wo (by simp)).1 (hd wo (by simp)).2) pa_nil)))))), ?_⟩
  refine ⟨by decide, fun pt hpt => ⟨pt, [.non, .str ""], rfl, SqT.of upd_same, rfl, .non, [.str ""], rfl, .str "", [], rfl, rfl, ?_⟩⟩
  refine ⟨rfl, by rw [upd_ne (ne_of_none hc hpt)]; exact hc, ?_⟩
  refine ⟨_, _, fun cls d H1 z => ?_, fun v H1 z => ?_, h pt hpt⟩
  · obtain ⟨hcb, v, hfl, hrt⟩ := z
    obtain ⟨b1, e1, f1⟩ := hcb
    refine ⟨b1, e1, fun _ ax _ => ⟨rfl, v, hfl, .non, rfl, v, rfl, small_es (show 2 ≤ 1000 by decide), hrt⟩, fun h1 => ?_⟩
    obtain ⟨b2, e2, f2⟩ := f1 h1
    refine ⟨b2, e2, fun _ ax _ => ⟨rfl, v, hfl, .non, rfl, v, rfl, small_es (show 2 ≤ 1000 by decide), hrt⟩, fun h2 => ?_⟩
    obtain ⟨b3, e3, f3⟩ := f2 h2
    exact ⟨b3, e3, fun _ ax _ => ⟨rfl, v, hfl, .non, rfl, v, rfl, small_es (show 2 ≤ 1000 by decide), hrt⟩, fun h3 => (f3 h3).elim⟩
  · exact ⟨v, rfl, .str "", rfl, small_es (show 2 ≤ 1000 by decide), z⟩
end
def TTwhy (K : PySem.W.Frag) (cl : List Value) (t : XK → Hp → VK → Prop) (E : XK) (H : Hp) (Q : VK) : Prop := TTask K cl t E H fun v H' => rIx K v (.int 1) H' Q
theorem tk_call {Z : Cx} {W : WX} {j i k : Nat} {TT : (XK → Hp → VK → Prop) → XK → Hp → VK → Prop} {a x : Str} {f c' g : Addr} {q : Str} {t : XK → Hp → VK → Prop} {p1 p2 p3 : Pos} (tko : TkOk Z.prog Z.w Z.K Z.mg Z.base j g TT) (th : Thunk Z.prog Z.w Z.K Z.mg Z.base k Z.fs Z.H_0 Z.s_0 f c' q t) (hex : Z.ex = []) (tk : Takes Z W) (hr : Room (k + j) Z.A)
    (hst : Z.stack = Z.env :: Z.outer) (hfr : Z.env.frame = some Z.env.locals)
    (hg : Gl Z x) (hm : Z.mg x = some (.ref g)) (hk : PySem.W.keepIn Z.K (.ref g) = true) (hN : Z.N[i]? = some a) (hv : Vis Z.env.scope a) (hd : (a == ("__debug__" : Str)) = false) (hcd : (a == ("__classdict__" : Str)) = false) (hdx : (x == ("__debug__" : Str)) = false)
    (he : starEach [.Name a p1] Z.env = [(false, eval (.Name a p1) Z.env)]) :
    PE Z (.Call (.Name x p2) [.Name a p1] [] p3) (fun σ H Q => σ[i]? = some (some (.ref f)) ∧ H c' = some (CodeO c' q) ∧ TT t (L2.WE W σ) H Q) := by
  refine ⟨fun pins s σ H Q I h => ?_⟩
  obtain ⟨hs, hc, ht⟩ := h
  refine wpAny_Call_Name_kw (ld_glob I hg hm ?_ hdx)
  refine PySem.W.callWith_K (h₀ := Z.base) I.ok.mod.kin hk (thn ((pa_cons (pe_var (pos := p1) (i := i) hN hv hd hcd) pa_nil he).run p3 pins s σ H (fun vs H1 => vs = [.ref f] ∧ H1 = H) I ⟨.ref f, hs, rfl, rfl⟩) fun us s1 ⟨vs, H1, I1, r1, q1⟩ => ⟨I1.kIn, ?_⟩) he (by rfl)
  obtain ⟨rfl, rfl⟩ := q1
  cases r1 with
  | @cons _ u _ us' r1 r2 =>
    cases r2
    obtain rfl : u = Value.ref f := r1
    have un : Un Z.fs [] Z.H_0 H1 Z.s_0.heap s1.heap := hex ▸ I1.base
    obtain ⟨o, fd, o1, o2, o3, o4, o5⟩ := th.obj
    have of1 := un.keep f _ o1 th.no th.nf (by simp)
    have nL : Z.s_0.heap.get? Z.env.locals = none := by
      cases e : Z.s_0.heap.get? Z.env.locals with
      | none => rfl
      | some o => exact absurd (Nat.lt_of_lt_of_le (Heap.lt_size e) I1.ok.above) (Nat.lt_irrefl _)
    have efr : frs Z.stack = Z.env.locals :: Z.fs := by
      rw [hst]
      show List.filterMap _ _ = _
      rw [List.filterMap_cons, hfr] <;> rfl
    have nfL : f ≠ Z.env.locals := fun z => by rw [← z, o1] at nL; cases nL
    have th2 : Thunk Z.prog Z.w Z.K Z.mg Z.base k (frs Z.stack) H1 s1 f c' q t := by
      refine ⟨⟨o, fd, of1, o2, o3, o4, o5⟩, un.free f _ o1 th.no (by simp), ?_, fun A outer s2 H2 Q E hr e0 un2 hc2 ht2 => th.run A outer s2 H2 Q E hr e0 ?_ hc2 ht2⟩
      · rw [efr]
        intro z
        rcases List.mem_cons.mp z with z | z
        · exact nfL z
        · exact th.nf z
      · rw [efr] at un2
        have u1 : Un (Z.env.locals :: Z.fs) [] Z.H_0 H1 Z.s_0.heap s1.heap := un.mono (fun b hb => List.mem_cons_of_mem _ hb) fun b hb => hb
        exact Un.less (u1.trans un2) nL
    have run := tko k Z.A Z.stack s1 H1 f c' q t Q (L2.WE W σ) hr I1.env0 th2 hc ht
    refine wpAny_call (codeAny_mono run fun r s' hq => ?_)
    cases r with
    | error e => exact passAt tk σ pins H1 s1 e s' I1 hq
    | ok fl => cases fl <;> first | exact I1.after hq | exact False.elim hq
theorem tk_why {P : Program} {w : World} {K : PySem.W.Frag} {mg : Str → Option Value} {base : Heap} {j : Nat} {cl : List Value} {x a y : Str} {params : Arguments} {scope : Scope} {g g2 : Addr} {fd : FuncData} {p1 p2 p3 p4 p5 p6 : Pos} {k1 : Nat} (tko : TkOk P w K mg base j g2 (TTask K cl))
    (F : FunD K x x params [.Return (some (.Subscript (.Call (.Name y p1) [.Name a p2] [] p3) (.Constant (.int 1) k1 p4) p5)) p6] scope [] [] g fd) (S : FnScope [a] [a] scope) (hb : Binds K fd [a] []) (l1 : scope.names.lookup a = some .local) (gy : scope.names.lookup y = some .globalImplicit) (my : mg y = some (.ref g2))
    (ky : PySem.W.keepIn K (.ref g2) = true) (hd : (a == ("__debug__" : Str)) = false) (hcd : (a == ("__classdict__" : Str)) = false) (hdy : (y == ("__debug__" : Str)) = false) : TkOk P w K mg base (j + 1) g (TTwhy K cl) := by
  refine tk_of F S hb fun k cdv A outer s H f c' q t Q E hr th hc h => ?_
  exact ⟨_, pss_one (ps_ret (pe_ix ix_seq (tk_call (Z := cxD P w K mg base [a] x scope g cdv A outer s H E) (W := fun cls d _ H => E cls d H) (i := 0) tko th rfl takesD hr rfl rfl gy my ky rfl (.inl l1) hd hcd hdy (by rfl)) pe_int (by intro _ _; rfl))), rfl, hc, h⟩
/-- the exceptions of these names are caught, their text is read -/
def CatchOk (K : PySem.W.Frag) (cl : List Value) (L : List Str) : Prop := ∀ n ∈ L, CaughtBy K (.ref (He.ga K n)) cl ∧ XfC K (He.ga K n) ∧ PySem.W.findIn K (.ref (He.ga K n)) "called" = some none
def tAskD (L : List Str) (we : DL.WE) : DL.WE := fun ρ cs P Z => we ρ cs (fun d cs1 => P (.tup [d, .str ""]) cs1) (fun x cs1 => x.cls ∈ L ∧ ∃ y, x.fs.lookup ("called" : Str) = some y ∧ P (.tup [.non, y]) cs1)
def tWhyD (L : List Str) (we : DL.WE) : DL.WE := fun ρ cs P Z => we ρ cs (fun d cs1 => P (.str "") cs1) (fun x cs1 => x.cls ∈ L ∧ ∃ y, x.fs.lookup ("called" : Str) = some y ∧ P y cs1)
theorem td_ask {K : PySem.W.Frag} {cl : List Value} {L : List Str} (hL : CatchOk K cl L) : TkD K (TTask K cl) (tAskD L) := by
  intro σ E we H Q ⟨F, cs, ρ, P, Z, st, re, hw, pe, px⟩ p hp
  obtain ⟨s1, _⟩ := st.new (o := .tup [.non, .str ""]) hp
  have back : ∀ (H2 : Hp) (cs2 : Cs) (vs : List V) (ds : List D), Sta K F (pur F cs (upd H p (.tup [.non, .str ""]))) cs2 H2 → RepL K (pur F cs2 H2) vs ds → P (.tup ds) cs2 → retT K vs H2 Q := fun H2 cs2 vs ds s2 r2 h2 p2 hp2 => by
    obtain ⟨s3, e3⟩ := s2.new (o := .tup vs) hp2
    exact pe _ cs2 _ _ (s3.from_ (s1.gr.trans s2.gr)) (.tup (SqT.of e3) (r2.mono s3.gr)) h2
  refine ⟨F, cs, ρ, _, _, s1.self, re.mono s1.gr, hw, fun H2 cs2 v d s2 r2 h2 => back H2 cs2 _ _ s2 (.cons r2 (.cons (.str _) .nil)) h2, fun H2 cs2 x d s2 r2 h2 => ?_⟩
  obtain ⟨hx, y, hy, hp2⟩ := h2
  obtain ⟨h1, h3, h4⟩ := hL _ hx
  obtain ⟨dd, xs, rfl, e2, rx⟩ := r2
  obtain ⟨v, hv, rv⟩ := rx.get hy
  exact ⟨h1, v, ⟨_, dd, xs, rfl, h3, h4, rfl, pur_le _ _ e2, hv⟩, back H2 cs2 _ _ s2 (.cons .non (.cons rv .nil)) hp2⟩
theorem td_why {K : PySem.W.Frag} {cl : List Value} {L : List Str} (hL : CatchOk K cl L) : TkD K (TTwhy K cl) (tWhyD L) := by
  intro σ E we H Q ⟨F, cs, ρ, P, Z, st, re, hw, pe, px⟩
  refine td_ask hL σ E we H _ ⟨F, cs, ρ, (fun d cs2 => ∃ a b, d = .tup [a, b] ∧ P b cs2), Z, st, re, ?_, ?_, px⟩
  · have e1 : (fun d cs1 => P (.str "") cs1) = fun (d : D) (cs1 : Cs) => P (.str "") cs1 := rfl
    show we ρ cs (fun d cs1 => ∃ a b, D.tup [d, .str ""] = .tup [a, b] ∧ P b cs1) (fun x cs1 => x.cls ∈ L ∧ ∃ y, x.fs.lookup ("called" : Str) = some y ∧ ∃ a b, D.tup [.non, y] = .tup [a, b] ∧ P b cs1)
    have q1 : (fun d cs1 => ∃ a b, D.tup [d, .str ""] = .tup [a, b] ∧ P b cs1) = fun (d : D) (cs1 : Cs) => P (.str "") cs1 := by
      funext d cs1
      exact propext ⟨fun ⟨a, b, e, h⟩ => by cases e; exact h, fun h => ⟨_, _, rfl, h⟩⟩
    have q2 : (fun (x : Exn) cs1 => x.cls ∈ L ∧ ∃ y, x.fs.lookup ("called" : Str) = some y ∧ ∃ a b, D.tup [.non, y] = .tup [a, b] ∧ P b cs1) = fun (x : Exn) (cs1 : Cs) => x.cls ∈ L ∧ ∃ y, x.fs.lookup ("called" : Str) = some y ∧ P y cs1 := by
      funext x cs1
      exact propext ⟨fun ⟨h1, y, h2, a, b, e, h⟩ => by cases e; exact ⟨h1, _, h2, h⟩, fun ⟨h1, y, h2, h⟩ => ⟨h1, y, h2, _, _, rfl, h⟩⟩
    rw [q1, q2]
    exact hw
  · intro H2 cs2 v d s2 r2 ⟨a, b, ed, hp⟩
    subst ed
    cases r2 with
    | tup h r =>
      obtain ⟨u, hu, ru⟩ := r.atI (i := 1) (d := b) rfl
      exact .inr (.inl ⟨_, _, 1, u, rfl, rfl, ex_t pur_le h, hu, pe H2 cs2 u b s2 ru hp⟩)
theorem r_lam {p : Addr} {q : Str} {T : DL.WE → DL.WE} {we : DL.WE} {ρ : DL.Env} {cs : Cs} {P : DP} {Z : XZ} (hl : look p cs = some (.tbl q)) (h : T we ρ cs P Z) : wLam p q T we ρ cs P Z := ⟨hl, h⟩
end DL
namespace DL
open PySem PySem.Spec PyProof.Rows L2 LamX ClX
theorem oexB_ok {K : PySem.W.Frag} {C : Addr} (h : oexB K C = true) : OexC K C := by
  obtain ⟨h1, h⟩ := Bool.and_eq_true_iff.mp h
  obtain ⟨h2, h⟩ := Bool.and_eq_true_iff.mp h
  obtain ⟨h3, h⟩ := Bool.and_eq_true_iff.mp h
  obtain ⟨h4, h5⟩ := Bool.and_eq_true_iff.mp h
  refine ⟨?_, of_decide_eq_true h2, of_decide_eq_true h3, of_decide_eq_true h4, h5⟩
  split at h1
  · rename_i c dd cd sl hl
    obtain ⟨e1, h1⟩ := Bool.and_eq_true_iff.mp h1
    obtain ⟨e2, h1⟩ := Bool.and_eq_true_iff.mp h1
    obtain ⟨e3, h1⟩ := Bool.and_eq_true_iff.mp h1
    split at h1
    · rename_i C' bm a0 a1 a2 a3 n a5 em es
      obtain ⟨e4, h1⟩ := Bool.and_eq_true_iff.mp h1
      obtain ⟨e5, e6⟩ := Bool.and_eq_true_iff.mp h1
      have q1 := of_decide_eq_true e1
      have q4 := of_decide_eq_true e4
      have q5 := of_decide_eq_true e5
      subst q1 q4 q5
      obtain ⟨nm, bs, mro, ns, qn, hd, sn, sub, ab, col, del⟩ := cd
      dsimp only at em e2 e3
      have q3 : del = false := by cases del <;> first | rfl | cases e3
      subst em e2 q3
      have esl : sl = #[a0, a1, a2, a3, some (.builtin "ValueError.__new__"), a5] := by
        obtain ⟨l⟩ := sl
        simp only at es
        rw [es]
      subst esl
      exact ⟨nm, qn, ns, bs, bm, sn, sub, ab, col, dd, a0, a1, a2, a3, a5, hl, e6⟩
    · cases h1
  · cases h1
theorem xcB_ok {K : PySem.W.Frag} {C : Addr} (h : xcB K C = true) : XcC K C := by
  obtain ⟨h1, h⟩ := Bool.and_eq_true_iff.mp h
  obtain ⟨h2, h⟩ := Bool.and_eq_true_iff.mp h
  obtain ⟨h3, h⟩ := Bool.and_eq_true_iff.mp h
  obtain ⟨h4, h⟩ := Bool.and_eq_true_iff.mp h
  obtain ⟨h5, h6⟩ := Bool.and_eq_true_iff.mp h
  exact ⟨oexB_ok h1, xfB_ok h2, of_decide_eq_true h3, of_decide_eq_true h4, of_decide_eq_true h5, of_decide_eq_true h6⟩
/-- an own exception of the name n, its __init__ -/
structure XClass (K : PySem.W.Frag) (n : Str) : Prop where
  x : XcC K (He.ga K n)
  ini : PySem.W.findIn K (.ref (He.ga K n)) "__init__" = some (some (.ref (iniA K n)))
  ty : PySem.W.typeIn K (.ref (iniA K n)) = some (.type "function")
  rd : CRead K (He.ga K n) (.type "type")
  vl : CVal K (He.ga K n) (.type "type") "__init__" (.ref (iniA K n)) (.ref (iniA K n))
theorem cfB_ok {K : PySem.W.Frag} {C : Addr} {m : Str} {u : Value} (h : cfB K C m u = true) : PySem.W.findCls K (.ref C) (.type "type") m = some (.val u) := by
  unfold cfB at h
  split at h
  · rename_i v e
    rw [e, of_decide_eq_true h]
  · cases h
theorem xclassB_ok {K : PySem.W.Frag} {n : Str} (h : xclassB K n = true) : XClass K n := by
  obtain ⟨h1, h⟩ := Bool.and_eq_true_iff.mp h
  obtain ⟨h2, h⟩ := Bool.and_eq_true_iff.mp h
  obtain ⟨h3, h⟩ := Bool.and_eq_true_iff.mp h
  obtain ⟨h4, h⟩ := Bool.and_eq_true_iff.mp h
  obtain ⟨h5, h6⟩ := Bool.and_eq_true_iff.mp h
  exact ⟨xcB_ok h1, of_decide_eq_true h2, of_decide_eq_true h3, ⟨h4, of_decide_eq_true h5⟩, ⟨cfB_ok h6, rfl⟩⟩
theorem caughtB_ok {K : PySem.W.Frag} {n : Str} : ∀ {cl : List Str}, caughtB K n cl = true → CaughtBy K (.ref (He.ga K n)) (cl.map fun c => .ref (He.ga K c))
  | [], h => by cases h
  | c :: r, h => by
    unfold caughtB at h
    split at h
    · rename_i e
      exact ⟨true, e, fun z => by cases z⟩
    · rename_i e
      exact ⟨false, e, fun _ => caughtB_ok h⟩
    · cases h
theorem catch_ok {K : PySem.W.Frag} {cl L : List Str} (h : (L.all fun n => caughtB K n cl && (xfB K (He.ga K n) && noAt K (He.ga K n) "called")) = true) : CatchOk K (cl.map fun c => .ref (He.ga K c)) L := fun n hn => by
  obtain ⟨h1, h2⟩ := Bool.and_eq_true_iff.mp (List.all_eq_true.mp h n hn)
  obtain ⟨h3, h4⟩ := Bool.and_eq_true_iff.mp h2
  exact ⟨caughtB_ok h1, xfB_ok h3, of_decide_eq_true h4⟩
def exn (n : Str) : Exn := ⟨n, [("called", .str n)]⟩
def g0V (n : Str) : List V → List (Str × V) := fun _ => [("called", .str n)]
def g0 (n : Str) : List D → List (Str × D) := fun _ => [("called", .str n)]
theorem fld0 {K : PySem.W.Frag} {n : Str} : FldOk K (g0V n) (g0 n) := fun G vs ds r => .cons rfl (.str _) .nil
theorem r_raise {n : Str} {f : Fin} {ρ : DL.Env} {cs : Cs} (h : f.ex (exn n) ρ cs) : sRaise n (fun ds => g0 n (ds ++ [])) wNil f ρ cs := h
theorem ok_defC {P : Program} {w : World} {K : PySem.W.Frag} {mg : Str → Option Value} {base : Heap} {x qual : Str} {params : Arguments} {body : List Stmt} {scope : Scope} {dvs : List V} {kws : List (Str × V)} {f c : Addr} {fd : FuncData} {N ps : List Str} {k : Nat} {sp : DSp} (F : FunD K x qual params body scope dvs kws f fd) (hcd : fd.code = .ref c) (S : FnScope N ps scope) {u : DL.WS}
    (hb : ∀ (A : Around) (outer : List PySem.Env) (s : Shared) (H : Hp) (E : XK), Room k (A.deeper (envOfC qual scope s.heap.objs.size f (.ref c))) → DSs (cxD P w K mg base N qual scope f (.ref c) A outer s H E) (fun cls d _ H => E cls d H) body u)
    (hsp : ∀ ds cs Q Z, sp ds cs Q Z → ds.length = ps.length → u (finD Q Z) (startD N ds) cs) : FnOk P w K mg base (L2.CX P w) (k + 1) f fd ps (spL K ps.length sp) := by
  obtain ⟨oc, od, dV, kV, doc, pm, an, cdv, ct, osl, rfl, lk, hc2, h4, h5⟩ := F.ex
  have e : cdv = .ref c := hcd
  subst e
  refine fn_of lk hc2 S spL_len fun A outer s H vs Q E hr h => ?_
  obtain ⟨F0, cs, ds, Pd, Z, st, r, l, hs, pe, px⟩ := h
  refine ⟨_, hb A outer s H E hr, F0, cs, startD N ds, finD Pd Z, st, ?_, hsp ds cs Pd Z hs l, ⟨fun H' cs' σ' ρ' s' _ h' => pe H' cs' .non .non s' .non h', fun _ _ _ _ _ _ h => h.elim, fun _ _ _ _ _ _ h => h.elim, pe, fun H' cs' σ' ρ' x d s' _ r' h' => px H' cs' x d s' r' h'⟩⟩
  unfold startD L2.start
  rw [r.length]
  exact RepE.start _ r
theorem takesL {X : Cx} {A : Around} {outer : List PySem.Env} {s : Shared} {H : Hp} {E : XK} {scope : Scope} {f c' : Addr} : Takes (lamCx X A outer s H E scope f c') (fun cls d _ H => E cls d H) := takes_of rfl rfl rfl rfl
abbrev tabA (K : PySem.W.Frag) (n : Str) : Addr := (He.cT K (n, none)).2
def sp_lawT (tb : Cs) : DSp := fun ds cs P _ => ∃ ns : List Int, ds = [.lst (ns.map D.int)] ∧ ns.length ≤ 63 ∧ cs = tb ∧ ∀ cs', P (.bl true) cs'
def tbls (ts : List (Addr × Str)) : Cs := ts.map fun p => (p.1, .tbl p.2)
theorem law_startT {K : PySem.W.Frag} {H : Hp} {a : Addr} {ns : List Int} {ts : List (Addr × Str)} (nd : (ts.map (·.1)).Nodup) (hT : ∀ p ∈ ts, H p.1 = some (.tbl #[])) (hl : ns.length ≤ 63) (hS : SqL K H a (ns.map V.int)) :
    (fun (vs : List V) (H : Hp) (Q : VK) (_ : XK) => spL K 1 (sp_lawT (tbls ts)) vs H Q fun _ _ _ => False) [.ref a] H (fun v _ => v = .bl true) (fun _ _ _ => False) := by
  have ea : adr (tbls ts) = ts.map (·.1) := by unfold adr tbls; rw [List.map_map]; rfl
  refine ⟨fun _ => none, tbls ts, [.lst (ns.map D.int)], fun d _ => d = .bl true, fun _ _ => False, ⟨fun _ _ h => (nomatch h), Ex.refl _, ea ▸ nd, fun _ _ => rfl, fun b m hm => ?_, fun _ _ h => (nomatch h)⟩, ?_, rfl, ⟨ns, rfl, hl, rfl, fun _ => rfl⟩, ?_, fun _ _ _ _ _ _ h => h⟩
  · obtain ⟨p, hp, e⟩ := List.mem_map.mp hm
    cases e
    refine ⟨_, hT p hp, ⟨True.intro, fun pos cv hc => ?_⟩⟩
    have z : codeAmong pos [] = some cv := hc
    simp [codeAmong] at z
  · have hna : ∀ u : HO, (∀ ps, u ≠ .tbl ps) → H a = some u → pur (fun _ => none) (tbls ts) H a = some u := fun u hu e => by
      rw [pur_at rfl, e]
      rw [ea]
      intro z
      obtain ⟨p, hp, e2⟩ := List.mem_map.mp z
      have e3 : p.1 = a := e2
      rw [← e3, hT p hp] at e
      exact hu _ (Option.some.inj e).symm
    refine .cons (.lst ?_ (RepL.ofInts ns)) .nil
    rcases hS with (h | ⟨o, h⟩) | h
    · exact .inl (.inl (hna _ (fun ps z => by cases z) h))
    · exact .inl (.inr ⟨o, hna _ (fun ps z => by cases z) h⟩)
    · exact .inr h
  · intro H' cs' v d s r e
    subst e
    cases r
    rfl
end DL
namespace DL
open PySem PySem.Spec PyProof.Rows L2 LamX
theorem code_of {K : PySem.W.Frag} {n : Str} {x qual : Str} {params : Arguments} {body : List Stmt} {scope : Scope} {dvs : List V} {kws : List (Str × V)} {fd : FuncData} (F : FunD K x qual params body scope dvs kws (He.ga K n) fd) : fd.code = .ref (He.cT K (n, none)).1 := by
  obtain ⟨oc, od, dV, kV, doc, pm, an, cdv, ct, osl, rfl, lk, hc2, h4, h5⟩ := F.ex
  obtain ⟨c, rfl⟩ := He.codeIn_ref hc2
  have e := He.codeOf_eq (p := (n, none)) lk rfl
  show Value.ref c = _
  exact congrArg Value.ref e.symm
theorem fd_same {K : PySem.W.Frag} {f : Addr} {x x' qual qual' : Str} {params params' : Arguments} {body body' : List Stmt} {scope scope' : Scope} {dvs dvs' : List V} {kws kws' : List (Str × V)} {fd fd' : FuncData} (F : FunD K x qual params body scope dvs kws f fd) (F' : FunD K x' qual' params' body' scope' dvs' kws' f fd') : fd = fd' := by
  obtain ⟨_, _, _, _, _, _, _, _, _, _, _, lk, _⟩ := F.ex
  obtain ⟨_, _, _, _, _, _, _, _, _, _, _, lk', _⟩ := F'.ex
  rw [lk] at lk'
  injection lk' with e
  injection e with _ _ e
  injection e
end DL
namespace DL
open PySem PySem.Spec PyProof.Rows L2
theorem look_ne {p q : Addr} {cs : Cs} {m : MO} (h : look q cs = some m) (hp : p ∉ adr cs) : q ≠ p := fun e => hp (by
  subst e
  exact List.mem_map.mpr ⟨_, look_mem h, rfl⟩)
theorem look_cons_ne {p q : Addr} {cs : Cs} {b : MO} (h : q ≠ p) : look q ((p, b) :: cs) = look q cs := by
  show (if p = q then some b else look q cs) = look q cs
  rw [if_neg (fun z => h z.symm)]
theorem r_eqSs {cs : Cs} {P : DP} {x : Str} (h : P (.bl true) cs) : oEq (.str x) (.str x) cs P := ⟨rfl, rfl, by rw [show eqD (.str x) (.str x) = true from by simp [eqD]]; exact h⟩
theorem r_neSs {cs : Cs} {P : DP} {x : Str} (h : P (.bl false) cs) : oNe (.str x) (.str x) cs P := ⟨rfl, rfl, by rw [show eqD (.str x) (.str x) = true from by simp [eqD]]; exact h⟩
theorem tb_step {p q : Addr} {c c' : Cs} {m : MO} (a : BagStep p c c') (h : q ≠ p) (e : look q c = some m) : look q c' = some m := (a.look h).trans e
theorem tb_cons {p q : Addr} {c : Cs} {b m : MO} (h : q ≠ p) (e : look q c = some m) : look q ((p, b) :: c) = some m := (look_cons_ne h).trans e
theorem tb_put {p q : Addr} {c : Cs} {b m : MO} (h : q ≠ p) (e : look q c = some m) : look q (put p b c) = some m := (look_put_ne h).trans e
section
variable {L : List Str} {we : DL.WE} {ρ : DL.Env} {cs : Cs} {P : DP} {Z : XZ}
theorem r_ask (h : we ρ cs (fun d cs1 => P (.tup [d, .str ""]) cs1) (fun x cs1 => x.cls ∈ L ∧ ∃ y, x.fs.lookup ("called" : Str) = some y ∧ P (.tup [.non, y]) cs1)) : tAskD L we ρ cs P Z := h
theorem r_why (h : we ρ cs (fun d cs1 => P (.str "") cs1) (fun x cs1 => x.cls ∈ L ∧ ∃ y, x.fs.lookup ("called" : Str) = some y ∧ P y cs1)) : tWhyD L we ρ cs P Z := h
end
end DL
namespace DL
open PySem PySem.Spec PyProof.Rows L2 LamX
/-- the names of such a lambda: N are the maker's; its own ones are others -/
structure LamT (N : List Str) (sc scope : Scope) : Prop where
  kind : scope.kind = .function
  co : scope.isCoroutine = false
  gen : scope.isGenerator = false
  own : ∀ y ∈ scope.names, y.2 ≠ .cell ∧ (y.2 = .local → y.1 ∉ N)
  free : ∀ y ∈ scope.names, y.2 = .free → sc.names.lookup y.1 = some .cell ∨ sc.names.lookup y.1 = some .free
def lamTB (N : List Str) (sc scope : Scope) : Bool := decide (scope.kind = .function) && (!scope.isCoroutine && (!scope.isGenerator && scope.names.all fun y =>
  !decide (y.2 = .cell) && ((!decide (y.2 = .local) || !N.contains y.1) && (!decide (y.2 = .free) || (decide (sc.names.lookup y.1 = some .cell) || decide (sc.names.lookup y.1 = some .free))))))
theorem lamT_by {N : List Str} {sc scope : Scope} (h : lamTB N sc scope = true) : LamT N sc scope := by
  unfold lamTB at h
  simp only [Bool.and_eq_true, Bool.or_eq_true, Bool.not_eq_true', decide_eq_true_eq, decide_eq_false_iff_not, List.all_eq_true] at h
  obtain ⟨a1, a2, a3, a4⟩ := h
  refine ⟨a1, a2, a3, fun y hy => ⟨(a4 y hy).1, fun e hm => ?_⟩, fun y hy e => ?_⟩
  · rcases (a4 y hy).2.1 with z | z
    · exact z e
    · have : N.contains y.1 = true := by simpa using hm
      rw [this] at z; cases z
  · rcases (a4 y hy).2.2 with z | z
    · exact absurd e z
    · exact z
/-- the object of such a lambda, its defaults at T -/
abbrev lamOD (X : Cx) (params : Arguments) (body : Expr) (scope : Scope) (T : Addr) (doc pm ctv : Value) (c' : Addr) : Obj :=
  PySem.W.kdv_obj "<lambda>" (X.env.qual ++ "<lambda>") params (.expr body) scope (cloFrom X.env.cells scope.names []) (.ref T) doc pm c' ctv
section
variable {X : Cx} {pins : List (Addr × Obj)} {σ : L2.St} {H : Hp} {s : Shared}
theorem lam_makeD {c P : Addr} {ps : Array Value} {params : Arguments} {body : Expr} {scope : Scope} {pos : Pos} {Q : Value → Shared → Prop} {i0 : Int} {j0 : Nat} {p0 : Pos} (I : Inv X pins σ H s) (TB : TabB X.base X.mg c P) (hcode : X.env.code = .ref c)
    (hP : H P = some (.tbl ps)) (hT : TabT H ps (X.env.qual ++ "<lambda>")) (hdf : params.defaults = [.Constant (.int i0) j0 p0]) (hkd : params.kw_defaults = []) (hfree : ∀ y ∈ scope.names, y.2 = .free → ∃ c, X.env.cells.lookup y.1 = some c)
    (h : ∀ (f c' T : Addr) (dv doc pm ctv : Value) (H1 : Hp) (s' : Shared), Inv X pins σ H1 s' → LamH H P c' (X.env.qual ++ "<lambda>") ps H1 → s'.heap.get? f = some (lamOD X params body scope T doc pm ctv c') → H1 f = none → f ∉ frs X.stack →
      s'.heap.get? T = some (PySem.W.kdv_tup [dv]) → H1 T = none → T ∉ frs X.stack → Q (.ref f) s') :
    wpAny (model X.prog X.w) X.A (eval (.Lambda params body scope pos) X.env) Q X.xe s := by
  obtain ⟨tOk, tIn⟩ := hT
  refine PySem.W.kdv_lam (by rw [hdf] <;> rfl) hkd ?_
  rw [hdf]
  refine PySem.W.kdv_all1 (wpAny_mono ((pe_int (X := X) (i := i0)).run pins s σ H (fun v H1 => v = .int i0 ∧ H1 = H) I ⟨rfl, rfl⟩) (fun dv s1 hh => ?_) fun e s1 z => ?_)
  · obtain ⟨v, H1, I1, rv, ev, eH⟩ := hh
    subst ev
    rw [eH] at I1
    refine PySem.W.kdv_all0 ?_
    rw [makeFunction_eq]
    simp only [List.zip_nil_right, List.filterMap_nil, List.isEmpty_nil, List.isEmpty_cons, Bool.false_eq_true, if_true, if_false, pure_bind]
    refine wpAny_bind (wpAny_newTextTuple ?_)
    obtain ⟨T, eT⟩ : ∃ T, T = s1.heap.objs.size := ⟨_, rfl⟩
    rw [← eT]
    have kp : ∀ b o, s1.heap.get? b = some o → (s1.heap.push (PySem.W.kdv_tup [dv])).get? b = some o := fun b o e => Heap.get?_push_of_some _ e
    have I2 : Inv X pins σ H { s1 with heap := s1.heap.push (PySem.W.kdv_tup [dv]) } := I1.kept (t' := s1.toks) kp
    have oT : (s1.heap.push (PySem.W.kdv_tup [dv])).get? T = some (PySem.W.kdv_tup [dv]) := by rw [eT]; exact Heap.get?_push_size _ rfl
    have nT : H T = none := by rw [eT]; exact I1.hok.fresh (Nat.le_refl _)
    have far : ∀ (s2 : Shared) (_ : Inv X pins σ H s2) (b : Addr), s2.heap.objs.size ≤ b → b ∉ frs X.stack := fun s2 J b le z => by
      rcases List.mem_cons.mp (J.stkSub _ z) with e | e
      · exact Nat.lt_irrefl _ (Nat.lt_of_lt_of_le (e ▸ J.lt) le)
      · exact J.nofs le e
    have fT : T ∉ frs X.stack := by rw [eT]; exact far s1 I1 _ (Nat.le_refl _)
    generalize hs2 : ({ s1 with heap := s1.heap.push (PySem.W.kdv_tup [dv]) } : Shared) = s2 at I2
    have oT2 : s2.heap.get? T = some (PySem.W.kdv_tup [dv]) := by rw [← hs2]; exact oT
    have kB : s2.heap.BuiltinsAt X.mg P := TB.bm.keeps I2.bk
    have kC := TB.code.keeps I2.bk
    have kG := I2.mod.glob.keeps I2.bk
    have obP : s2.heap.get? P = some { cls := .none, data := .fields ps } := I2.hok P _ hP
    have nTP : T ≠ P := fun z => by rw [z, hP] at nT; cases nT
    rcases hc : codeAmong pos ps.toList with _ | cv
    · apply PySem.W.kdv_makeTail (mg := X.mg) (c := c) (P := P) (ps := ps) (closure_ok hfree) I2.ok.glob kG hcode kC obP tOk hc TB.gP kB
      intro c' ctv doc h' tk ext cge clt crec tab
      obtain ⟨c2, oc, fvs, t, e2, hoc, hd, hv⟩ := crec
      cases e2
      have nc : H c' = none := I2.hok.fresh cge
      have le : s2.heap.objs.size ≤ h'.objs.size := Nat.le_trans cge (Nat.le_of_lt clt)
      have J := inv_table (t' := tk) (q := X.env.qual ++ "<lambda>") (more := #[rawInt pos.line, rawInt pos.col, .ref c']) (h' := h'.push (lamOD X params body scope T doc ((X.mg "__name__").getD .none) ctv c')) I2 hP
        (fun b o hb e => Heap.get?_push_of_some _ (ext b o hb e)) (Heap.get?_push_of_some _ tab) cge ⟨oc, fvs, t, Heap.get?_push_of_some _ hoc, hd, hv⟩
      have eL : (ps ++ #[rawInt pos.line, rawInt pos.col, .ref c']).toList = ps.toList ++ [rawInt pos.line, rawInt pos.col, .ref c'] := by simp
      have up : ∀ b, b ≠ c' → b ≠ P → H b = none → upd (upd H P (.tbl (ps ++ #[rawInt pos.line, rawInt pos.col, .ref c']))) c' (CodeO c' (X.env.qual ++ "<lambda>")) b = none := fun b h1 h2 h3 => by rw [upd_ne h1, upd_ne h2]; exact h3
      refine h h'.objs.size c' T dv doc _ ctv _ _ J (.new nc ?_ fun p' cv z => ?_) (Heap.get?_push_size _ rfl) (up _ (Nat.ne_of_gt clt) (Nat.ne_of_gt (Nat.lt_of_lt_of_le (Heap.lt_size obP) le)) (I2.hok.fresh le)) (far s2 I2 _ le)
        (Heap.get?_push_of_some _ (ext T _ nTP oT2)) (up _ (Nat.ne_of_lt (Nat.lt_of_lt_of_le (Heap.lt_size oT2) cge)) nTP nT) fT
      · rw [eL]; exact PySem.TriplesOk_snoc _ _ _ _ tOk
      · rw [eL] at z; exact among_app _ tOk z
    · obtain ⟨c', rfl, hco⟩ := tIn pos cv hc
      apply PySem.W.kdv_makeTailHit (mg := X.mg) (c := c) (P := P) (ps := ps) (closure_ok hfree) I2.ok.glob kG hcode kC obP tOk hc kB
      intro ctv doc h' tk ext le
      exact h h'.objs.size c' T dv doc _ ctv H _ (I2.kept (t' := tk) fun b o e => Heap.get?_push_of_some _ (ext b o e)) (.hit hco) (Heap.get?_push_size _ rfl) (I2.hok.fresh le) (far s2 I2 _ le)
        (Heap.get?_push_of_some _ (ext _ _ oT2)) nT fT
  · exact z
end
theorem LamT.has {X : Cx} {scope : Scope} (L : LamT X.N X.env.scope scope) (ok : X.Ok) : ∀ y ∈ scope.names, y.2 = .free → ∃ c, X.env.cells.lookup y.1 = some c := fun y hy e =>
  (L.free y hy e).elim (fun k => ok.has _ (.inl k)) fun k => ok.has _ (.inr k)
section
variable {X : Cx} {pins : List (Addr × Obj)} {σ : L2.St} {H HZ : Hp} {s s1 : Shared}
/-- the lambda's body begins: binds are its own names -/
theorem lam_startD {A : Around} {outer : List PySem.Env} {E : XK} {scope : Scope} {f c' : Addr} {h1 : Heap} {tk : Nat} {mo : Str → Option Value} (I : Inv X pins σ H s) (L : LamT X.N X.env.scope scope) (e0 : Env0 X.prog X.w X.K X.mg X.base A outer s1 HZ) (hd : A.handled = none)
    (un : Un (frs X.stack) [] H HZ s.heap s1.heap) (hns : h1.Ns s1.heap.objs.size mo) (kp : ∀ b o, s1.heap.get? b = some o → h1.get? b = some o) :
    Inv (lamCx X A outer s1 HZ E scope f c') [] σ HZ { s1 with heap := h1, toks := tk } := by
  have free' := L.has I.ok
  have down : ∀ {y c}, (cloFrom X.env.cells scope.names []).lookup y = some c → X.env.cells.lookup y = some c := by
    intro y c e
    rcases cloFrom_mem (PySem.mem_of_lookup e) with hm | ⟨a1, a2⟩
    · cases hm
    · obtain ⟨c1, hc⟩ := free' _ a1 rfl
      have hc1 : X.env.cells.lookup y = some c1 := hc
      rw [show c = c1 by rw [a2, hc1] <;> rfl]
      exact hc1
  have up : ∀ {y}, scope.names.lookup y = some .free → ∃ c, (cloFrom X.env.cells scope.names []).lookup y = some c := fun {y} hl =>
    mem_lookup (cloFrom_has (cells := X.env.cells) (acc := []) (show (y, NameKind.free) ∈ scope.names from PySem.mem_of_lookup hl))
  have cellK : ∀ {c : Addr} {v : Option Value}, H c = none → s.heap.IsCell c v → h1.IsCell c v := fun {c v} n ⟨o, ho, hdt⟩ => by
    obtain ⟨sl, q⟩ := un.any ho n (by simp)
    exact ⟨_, kp _ _ q, hdt⟩
  have none_ : ∀ {b : Addr} {T : Prop}, b ∈ (lamCx X A outer s1 HZ E scope f c').ex → T := fun {b T} z => absurd (show b ∈ ([] : List Addr) from z) (by simp)
  refine ⟨⟨e0.mod, L.kind, rfl, rfl, Nat.le_refl _, fun y z c a1 a2 => I.ok.inj y z c (down a1) (down a2), fun y hy => ?_, fun y c z _ => ?_, fun _ => hd, Around.frames_deeper e0.frames, .inr ⟨rfl, rfl⟩, fun b z => none_ z, e0.bs, e0.bsz, fun b _ _ z => none_ z, fun b z => none_ z, e0.funs, e0.frf⟩,
    rfl, e0.bare, Un.kept kp, ⟨_, hns, fun i y v a1 a2 a3 => ?_⟩, fun y c e => ?_, e0.hok.fresh (Nat.le_refl _), fun y c e => ?_, fun q hq => absurd (show q ∈ ([] : List (Addr × Obj)) ++ [] from hq) (by simp), e0.hok.kept kp, I.len⟩
  · have hy2 : scope.names.lookup y = some .cell ∨ scope.names.lookup y = some .free := hy
    rcases hy2 with q | q
    · exact absurd rfl (L.own _ (PySem.mem_of_lookup q)).1
    · exact up q
  · exact absurd (show (false : Bool) = true from z) (by simp)
  · have a4 : Vis scope y := a3
    rcases a4 with k | k | k
    · exact absurd (List.mem_of_getElem? a1) ((L.own _ (PySem.mem_of_lookup k)).2 rfl)
    · exact absurd rfl (L.own _ (PySem.mem_of_lookup k)).1
    · obtain ⟨m, hn, hl⟩ := I.loc
      have vis : Vis X.env.scope y := .inr ((L.free _ (PySem.mem_of_lookup k) rfl).elim .inl .inr)
      obtain ⟨w', r, q⟩ := hl i y v a1 a2 vis
      obtain ⟨c2, h2⟩ := up k
      have c1 := down h2
      refine ⟨w', r, .inr ⟨.inr k, c2, h2, ?_⟩⟩
      rcases q with ⟨k', _⟩ | ⟨_, c3, e', z⟩
      · have k2 : X.env.scope.names.lookup y = some .local := k'
        rcases L.free _ (PySem.mem_of_lookup k) rfl with k3 | k3 <;> rw [show X.env.scope.names.lookup y = _ from k3] at k2 <;> cases k2
      · rw [c1] at e'
        cases e'
        exact cellK (I.freeC y _ c1) z
  · obtain ⟨w', z⟩ := I.cell y c (down e)
    exact ⟨w', cellK (I.freeC y c (down e)) z⟩
  · obtain ⟨v, o, ho, hdt⟩ := I.cell y c (down e)
    exact un.free c o ho (I.freeC y c (down e)) (by simp)
end
theorem lam_thunkD {X : Cx} {pins : List (Addr × Obj)} {σ : L2.St} {H : Hp} {s : Shared} {f c' T : Addr} {a : Str} {dv doc pm ctv : Value} {params : Arguments} {body : Expr} {scope : Scope} {k : Nat} {t : XK → TE} (I : Inv X pins σ H s) (L : LamT X.N X.env.scope scope)
    (hf : s.heap.get? f = some (lamOD X params body scope T doc pm ctv c')) (hfn : H f = none) (hfr : f ∉ frs X.stack) (hT : s.heap.get? T = some (PySem.W.kdv_tup [dv])) (hTn : H T = none) (hTr : T ∉ frs X.stack) (hl : scope.names.lookup a = some .local)
    (hbind : ∀ (q : Str) (cl : List (Str × Addr)) (T : Addr) (doc pm cv ctv dv : Value), ∃ k, bindArgs (PySem.W.kdv_fn "<lambda>" q params (.expr body) scope cl (.ref T) doc pm cv ctv) ⟨[], []⟩ = seqItems? (.ref T) >>= k ∧ k (some #[dv]) = pure [(a, dv)])
    (hbody : ∀ (A : Around) (outer : List PySem.Env) (s : Shared) (H : Hp) (E : XK), Room k (A.deeper (lamEnv X scope s.heap.objs.size f c')) → PE (lamCx X A outer s H E scope f c') body (t E)) :
    Thunk X.prog X.w X.K X.mg X.base (k + 1) (frs X.stack) H s f c' (X.env.qual ++ "<lambda>") (fun E H Q => t E σ H Q) := by
  refine ⟨⟨_, _, hf, rfl, rfl, rfl, rfl⟩, hfn, hfr, fun A outer s1 H1 Q E hr e0 un hc ht => ?_⟩
  have of1 := un.keep f _ hf hfn hfr (by simp)
  have oT1 := un.keep T _ hT hTn hTr (by simp)
  obtain ⟨⟨oc, fvs, tx, hoc, hdc, hvc⟩, _, _⟩ := e0.hok c' _ hc
  have lim : s1.heap.NoLimit := e0.mod.nolimit.keeps fun b o e => (e0.bs b o e).1
  obtain ⟨kb, b1, b2⟩ := hbind (X.env.qual ++ "<lambda>") (cloFrom X.env.cells scope.names []) T doc pm (.ref c') ctv dv
  have B : BindsTo s1 (PySem.W.kdv_fn "<lambda>" (X.env.qual ++ "<lambda>") params (.expr body) scope (cloFrom X.env.cells scope.names []) (.ref T) doc pm (.ref c') ctv) ⟨[], []⟩ [(a, dv)] := BindsTo.of_defaults rfl oT1 rfl b1 b2
  refine PySem.W.kla_callFunE hr.depth of1 rfl L.co L.gen rfl ⟨c', oc, fvs, tx, rfl, hoc, hdc, hvc⟩ (B _ _ _ _ ?_)
  refine wpAny_newFunctionEnv (fun y hy => (L.own y hy).1) (fun y hy => by rw [List.mem_singleton.mp hy]; exact hl) (fun h1 hns hsb => ⟨lim.fresh _ hsb, ?_⟩) L.kind
  have kp : ∀ b o, s1.heap.get? b = some o → h1.get? b = some o := fun b o e => hsb.extBut b o (Nat.ne_of_lt (Heap.lt_size e)) (Heap.get?_push_of_some _ e)
  have J := lam_startD (E := E) (f := f) (c' := c') (tk := s1.toks + [(a, dv)].length) I L e0 hr.hd un hns kp
  refine PySem.W.kla_codeExpr (wpAny_mono ((hbody _ _ s1 H1 E (hr.deeper _)).run [] _ _ H1 Q J ht) (fun v s' hq => ?_) fun e s' hq => hq)
  obtain ⟨w', H', J', rv, q⟩ := hq
  exact ⟨w', H', J'.os, J'.bare, J'.base, J'.hok, rv, q⟩
section
variable {X : Cx} {W : WX}
theorem d_lamD {j k : Nat} {TT : (XK → Hp → VK → Prop) → XK → Hp → VK → Prop} {T : DL.WE → DL.WE} {we : DL.WE} {g c pt : Addr} {q x a : Str} {params : Arguments} {body : Expr} {scope : Scope} {p lpos pos : Pos} {i0 : Int} {j0 : Nat} {p0 : Pos} (tko : TkOk X.prog X.w X.K X.mg X.base j g TT) (td : TkD X.K TT T) (tk : Takes X W) (hr : Room (k + 1 + j) X.A)
    (hg : Gl X x) (hm : X.mg x = some (.ref g)) (hk : PySem.W.keepIn X.K (.ref g) = true) (TB : TabB X.base X.mg c pt) (hcode : X.env.code = .ref c) (L : LamT X.N X.env.scope scope) (hla : scope.names.lookup a = some .local)
    (hbody : ∀ (A : Around) (outer : List PySem.Env) (s : Shared) (H : Hp) (E : XK) (f c' : Addr), Room k (A.deeper (lamEnv X scope s.heap.objs.size f c')) → DE (lamCx X A outer s H E scope f c') (fun cls d _ H => E cls d H) body we)
    (hq : X.env.qual ++ "<lambda>" = q := by rfl) (hdf : params.defaults = [.Constant (.int i0) j0 p0] := by rfl) (hkd : params.kw_defaults = [] := by rfl)
    (hbind : ∀ (q : Str) (cl : List (Str × Addr)) (T : Addr) (doc pm cv ctv dv : Value), ∃ k, bindArgs (PySem.W.kdv_fn "<lambda>" q params (.expr body) scope cl (.ref T) doc pm cv ctv) ⟨[], []⟩ = seqItems? (.ref T) >>= k ∧ k (some #[dv]) = pure [(a, dv)] := by intros; exact ⟨_, rfl, rfl⟩) (hdb : (x == ("__debug__" : Str)) = false := by decide) :
    DE X W (.Call (.Name x p) [.Lambda params body scope lpos] [] pos) (wLam pt q T we) := by
  refine ⟨fun pins s σ H Q I h => ?_⟩
  obtain ⟨F, cs, ρ, P, Z, st, re, ⟨hl, hw⟩, pe, px⟩ := h
  obtain ⟨ps, ht, tt⟩ := tbl_at st hl
  refine wpAny_Call_Name_kw (ld_glob I hg hm ?_ hdb)
  refine PySem.W.callWith_K (h₀ := X.base) I.ok.mod.kin hk ?_ (by rfl) (by rfl)
  show wpAny _ _ (spliced ((false, eval (.Lambda params body scope lpos) X.env) :: backTo pos (starEach [] X.env))) _ _ s
  refine Calls.spliced_cons (lam_makeD I TB hcode ht (hq ▸ tt.le pur_le) hdf hkd (L.has I.ok) fun f c' T' dv doc pm ctv H1 s' I1 lh hf hfn hfr hT hTn hTr => Calls.spliced_nil ⟨I1.kIn, ?_⟩)
  rw [hq] at lh
  obtain ⟨s1, hc⟩ := sta_lam st hl ht tt lh
  have th := lam_thunkD (k := k) (t := fun E => lE X.K (fun cls d _ H => E cls d H) we) I1 L hf hfn hfr hT hTn hTr hla hbind fun A outer s0 H0 E hr' => hbody A outer s0 H0 E f c' hr'
  have run := tko (k + 1) X.A X.stack s' H1 f c' (X.env.qual ++ "<lambda>") _ Q (L2.WE W σ) hr I1.env0 th (hq ▸ hc) (td σ (L2.WE W σ) we H1 Q ⟨F, cs, ρ, P, Z, s1.self, re.mono s1.gr, hw, pe.le s1.gr, px.le s1.gr⟩)
  refine wpAny_call (codeAny_mono run fun r s2 hq2 => ?_)
  cases r with
  | error e => exact passAt tk σ pins H1 s' e s2 I1 hq2
  | ok fl => cases fl <;> first | exact I1.after hq2 | exact False.elim hq2
end
end DL
namespace DL
open PySem PySem.Spec PyProof.Rows L2
section
variable {X : Cx} {W : WX} {K : PySem.W.Frag} {b : Expr} {es : List Expr} {w : WA} {wb : DL.WE} {p1 pos : Pos}
def wLRep (w : WA) (wb : DL.WE) : DL.WE := fun ρ cs P Z => w ρ cs (fun ds cs1 => wb ρ cs1 (fun y cs2 => ∃ k : Nat, y = .int (k : Int) ∧ ds.length * k ≤ 100000 ∧ k ≤ 100000 ∧ P (.lst (List.replicate k ds).flatten) cs2) Z) Z
theorem r_lrep {ρ : DL.Env} {cs : Cs} {P : DP} {Z : XZ} (h : w ρ cs (fun ds cs1 => wb ρ cs1 (fun y cs2 => ∃ k : Nat, y = .int (k : Int) ∧ ds.length * k ≤ 100000 ∧ k ≤ 100000 ∧ P (.lst (List.replicate k ds).flatten) cs2) Z) Z) : wLRep w wb ρ cs P Z := h
theorem r_lrepE {ds : List D} {k : Nat} {P : DP} {cs : Cs} (h1 : ds.length * k ≤ 100000) (h2 : k ≤ 100000) (h : P (.lst (List.replicate k ds).flatten) cs) : ∃ k' : Nat, D.int (k : Int) = .int (k' : Int) ∧ ds.length * k' ≤ 100000 ∧ k' ≤ 100000 ∧ P (.lst (List.replicate k' ds).flatten) cs := ⟨k, rfl, h1, h2, h⟩
end
end DL
namespace DL
open PySem PySem.Spec PyProof.Rows L2
def pickL {α : Type} (is : List Nat) (xs : List α) : List α := is.filterMap fun i => xs[i]?
section
variable {X : Cx} {W : WX} {e : Expr} {es : List Expr} {w wk : WA} {x : Str} {p pos : Pos}
def wCallG (sp : DSp) (is : List Nat) (ms : List D) (w wk : WA) : DL.WE := fun ρ cs P Z => w ρ cs (fun ds cs1 => wk ρ cs1 (fun zs cs2 => sp (ds ++ pickL is (ms ++ zs)) cs2 P Z) Z) Z
variable {sp : DSp} {is : List Nat} {ms : List D} {ρ : DL.Env} {cs : Cs} {P : DP} {Z : XZ}
theorem r_callG (h : w ρ cs (fun ds cs1 => wk ρ cs1 (fun zs cs2 => sp (ds ++ pickL is (ms ++ zs)) cs2 P Z) Z) Z) : wCallG sp is ms w wk ρ cs P Z := h
theorem r_pk1 {ds xs : List D} {i : Nat} {a : D} (ha : xs[i]? = some a) (h : sp (ds ++ [a]) cs P Z) : sp (ds ++ pickL [i] xs) cs P Z := by
  unfold pickL
  simp only [List.filterMap_cons, ha, List.filterMap_nil]
  exact h
theorem r_pk2 {ds xs : List D} {i j : Nat} {a b : D} (ha : xs[i]? = some a) (hb : xs[j]? = some b) (h : sp (ds ++ [a, b]) cs P Z) : sp (ds ++ pickL [i, j] xs) cs P Z := by
  unfold pickL
  simp only [List.filterMap_cons, ha, hb, List.filterMap_nil]
  exact h
end
end DL
namespace DL
open PySem PySem.Spec PyProof.Rows L2
section
variable {X : Cx} {W : WX} {e b : Expr} {we wb : DL.WE} {lo hi : Option Expr} {wl wh : WO} {p1 p2 pos : Pos}
def wSlRep (we : DL.WE) (wl wh : WO) (wb : DL.WE) : DL.WE := fun ρ cs P Z => we ρ cs (fun x cs1 => wl ρ cs1 (fun l cs2 => wh ρ cs2 (fun u cs3 => match x with
  | .lst xs => wb ρ cs3 (fun y cs4 => ∃ k : Nat, y = .int (k : Int) ∧ (cutD xs l u).length * k ≤ 100000 ∧ k ≤ 100000 ∧ P (.lst (List.replicate k (cutD xs l u)).flatten) cs4) Z
  | _ => False) Z) Z) Z
theorem r_slrep {ρ : DL.Env} {cs : Cs} {P : DP} {Z : XZ} (h : we ρ cs (fun x cs1 => wl ρ cs1 (fun l cs2 => wh ρ cs2 (fun u cs3 => match x with
  | .lst xs => wb ρ cs3 (fun y cs4 => ∃ k : Nat, y = .int (k : Int) ∧ (cutD xs l u).length * k ≤ 100000 ∧ k ≤ 100000 ∧ P (.lst (List.replicate k (cutD xs l u)).flatten) cs4) Z
  | _ => False) Z) Z) Z) : wSlRep we wl wh wb ρ cs P Z := h
end
section
variable {b : Bx} {cs : Cs} {P : DP}
theorem r_slB {lo hi : Option Int} (h : P (.tup (DL.cutD [dR b.l, dR b.t, dR b.w, dR b.h] lo hi)) cs) : oSlT b.d lo hi cs P := h
theorem r_listB (h : P (.lst [dR b.l, dR b.t, dR b.w, dR b.h]) cs) : oList [b.d] cs P := h
theorem r_lenB (h : P (.int 4) cs) : oLen [b.d] cs P := h
theorem r_catB {xs : List D} (hl : xs.length ≤ 1000) (h : P (.tup ([dR b.l, dR b.t, dR b.w, dR b.h] ++ xs)) cs) : oCatT b.d (.tup xs) cs P := ⟨by show 4 + xs.length ≤ _; omega, h⟩
end
end DL
namespace DL
open PySem PySem.Spec PyProof.Rows L2
end DL
namespace DL
open PySem L2
inductive Tr where
  | lf
  | nd (dn : Bool) (a b : Tr)
def Tr.d : Tr → D
  | .lf => .tup []
  | .nd dn a b => .tup [sideD dn, a.d, b.d]
def Tr.n : Tr → Nat
  | .lf => 1
  | .nd _ a b => a.n + b.n
def twoW (ws : List Int) (k : Nat) : List Int := [(ws.take k).sum, (ws.drop k).sum]
def fstB (b : Bx) (ws : List Int) (k : Nat) (dn : Bool) : Bx := splitAt_ b (twoW ws k) dn 0
def sndB (b : Bx) (ws : List Int) (k : Nat) (dn : Bool) : Bx := splitAt_ b (twoW ws k) dn 1
theorem WtOk.take {ws : List Int} (h : WtOk ws) {k : Nat} (h0 : 1 ≤ k) (h1 : k < ws.length) : WtOk (ws.take k) := by
  have := h.l1
  refine ⟨by rw [List.length_take]; omega, by rw [List.length_take]; omega, fun w hw => h.rg w (List.mem_of_mem_take hw)⟩
theorem WtOk.drop {ws : List Int} (h : WtOk ws) {k : Nat} (h1 : k < ws.length) : WtOk (ws.drop k) := by
  have := h.l1
  refine ⟨by rw [List.length_drop]; omega, by rw [List.length_drop]; omega, fun w hw => h.rg w (List.mem_of_mem_drop hw)⟩
/-- sizes of a box that was split so often -/
structure Bx.Lv (b : Bx) (k : Nat) : Prop where
  l : DL.Sz (202 + 320 * k) b.l
  t : DL.Sz (202 + 320 * k) b.t
  w : DL.Sz (202 + 23 * k) b.w
  h : DL.Sz (202 + 23 * k) b.h
theorem Bx.Lv.sz {b : Bx} {k : Nat} (h : b.Lv k) (hk : k ≤ 5) : b.Sz 1900 := ⟨h.l.mono (by omega), h.t.mono (by omega), h.w.mono (by omega), h.h.mono (by omega)⟩
def tw : Tr → Bx → List Int → Rat
  | .lf, b, _ => shapeR b.w b.h
  | .nd dn x y, b, ws => mxR (tw x (fstB b ws x.n dn) (ws.take x.n)) (tw y (sndB b ws x.n dn) (ws.drop x.n))
/-- r is the least worst shape of all trees -/
structure LeastT (b : Bx) (ws : List Int) (r : Rat) : Prop where
  is : ∃ t : Tr, t.n = ws.length ∧ tw t b ws = r
  le : ∀ t : Tr, t.n = ws.length → r ≤ tw t b ws
theorem LeastT.uniq {b : Bx} {ws : List Int} {r s : Rat} (h : LeastT b ws r) (h' : LeastT b ws s) : r = s := by
  obtain ⟨t, e1, e2⟩ := h.is
  obtain ⟨u, e3, e4⟩ := h'.is
  exact Rat.le_antisymm (e4 ▸ h.le u e3) (e2 ▸ h'.le t e1)
/-- the least of the two sides, of all places -/
def spotL (n : Nat) : List (Bool × Nat) := (List.range (n - 1)).map (fun i => (true, i + 1)) ++ (List.range (n - 1)).map (fun i => (false, i + 1))
end DL
namespace DL
open PySem PySem.Spec PyProof.Rows L2
section
variable {X : Cx} {W : WX} {es : List Expr} {pos : Pos}
def gL (n : Nat) (gs : WGs) : WG := fun d ρ k => match d with
  | .lst ds => ds.length = n ∧ gs ds ρ k
  | _ => False
theorem r_gL {n : Nat} {gs : WGs} {ds : List D} {ρ : DL.Env} {k : DL.Env → Prop} (hl : ds.length = n) (h : gs ds ρ k) : gL n gs (.lst ds) ρ k := ⟨hl, h⟩
end
end DL
namespace DL
open PySem
open PySem.Sem (wp)
def sqH (t : Bool) (h : Heap) (l : Addr) (xs : Array Value) : Prop := match t with
  | true => h.IsTuple l xs
  | false => h.IsList l xs
def sqI (t : Bool) (h : Heap) (it l : Addr) (i : Nat) : Prop := match t with
  | true => h.IsTupleIter it l i
  | false => h.IsListIter it l i
def itC : Bool → String
  | true => "tuple_iterator"
  | false => "list_iterator"
theorem sqI_iff {t : Bool} {h : Heap} {it l : Addr} {i : Nat} : sqI t h it l i ↔ ∃ o, h.get? it = some o ∧ o.cls = .type (itC t) ∧ o.data = .fields #[.ref l, .int i 0] := by cases t <;> exact Iff.rfl
theorem sqH.ext {t : Bool} {h h' : Heap} {a b : Addr} {xs : Array Value} (x : sqH t h a xs) (hs : Heap.ExtBut b h h') (hab : a ≠ b) : sqH t h' a xs := by
  cases t
  · exact Heap.IsList.extBut x hs hab
  · exact Heap.IsTuple.extBut x hs hab
theorem sqH.push {t : Bool} {h : Heap} {a : Addr} {xs : Array Value} (x : sqH t h a xs) (o : Obj) : sqH t (h.push o) a xs := by
  cases t
  · exact Heap.IsList.push x o
  · exact Heap.IsTuple.push x o
theorem sqH.lt {t : Bool} {h : Heap} {a : Addr} {xs : Array Value} (x : sqH t h a xs) : a < h.objs.size := by
  cases t
  · obtain ⟨o, e, _⟩ := (show h.IsList a xs from x); exact Heap.lt_size e
  · obtain ⟨o, e, _⟩ := (show h.IsTuple a xs from x); exact Heap.lt_size e
theorem sqI.ext {t : Bool} {h h' : Heap} {a l b : Addr} {i : Nat} (x : sqI t h a l i) (hs : Heap.ExtBut b h h') (hab : a ≠ b) : sqI t h' a l i := by
  obtain ⟨o, e, c, d⟩ := sqI_iff.mp x
  exact sqI_iff.mpr ⟨o, hs a o hab e, c, d⟩
theorem sqI.at {t : Bool} {h h' : Heap} {a l : Addr} {i : Nat} (x : sqI t h a l i) (hk : ∀ o, h.get? a = some o → h'.get? a = some o) : sqI t h' a l i := by
  obtain ⟨o, e, c, d⟩ := sqI_iff.mp x
  exact sqI_iff.mpr ⟨o, hk o e, c, d⟩
theorem sqI.lt {t : Bool} {h : Heap} {a l : Addr} {i : Nat} (x : sqI t h a l i) : a < h.objs.size := by
  obtain ⟨o, e, _⟩ := sqI_iff.mp x
  exact Heap.lt_size e
section
open PySem.Spec PyProof.Rows L2
def SqB (K : PySem.W.Frag) (t : Bool) (H : Hp) (a : Addr) (xs : List V) : Prop := match t with
  | true => SqT K H a xs
  | false => SqL K H a xs
theorem SqB.is {X : Cx} {pins : List (Addr × Obj)} {σ : L2.St} {H : Hp} {s : Shared} {t : Bool} {a : Addr} {xs : List V} (I : Inv X pins σ H s) (h : SqB X.K t H a xs) : ∃ its : List Value, Vals xs its ∧ sqH t s.heap a its.toArray := by
  cases t
  · obtain ⟨its, r, p, _⟩ := I.list h
    exact ⟨its, r, p.isList⟩
  · obtain ⟨its, r, p, _⟩ := I.tuple h
    exact ⟨its, r, p⟩
theorem SqB.inj {X : Cx} {pins : List (Addr × Obj)} {σ : L2.St} {H : Hp} {s : Shared} {t : Bool} {a : Addr} {xs ys : List V} (I : Inv X pins σ H s) (h : SqB X.K t H a xs) (h' : SqB X.K t H a ys) : xs = ys := by
  cases t
  · exact I.list_inj h h'
  · exact I.tuple_inj h h'
end
section
open PySem.Spec PyProof.Rows L2
variable {X : Cx} {W : WX} {K : PySem.W.Frag}
/-- the items of a list or a tuple -/
def itemsD : D → Option (List D)
  | .lst xs => some xs
  | .tup xs => some xs
  | _ => none
def iZm (w : WA) : WI := fun ρ cs P Z => w ρ cs (fun ds cs1 => ∃ d e xs ys, ds = [d, e] ∧ itemsD d = some xs ∧ itemsD e = some ys ∧ P (List.zipWith (fun d e => D.tup [d, e]) xs ys) cs1) Z
theorem r_zipM {w : WA} {ρ : DL.Env} {cs : Cs} {P : List D → Cs → Prop} {Z : XZ} (h : w ρ cs (fun ds cs1 => ∃ d e xs ys, ds = [d, e] ∧ itemsD d = some xs ∧ itemsD e = some ys ∧ P (List.zipWith (fun d e => D.tup [d, e]) xs ys) cs1) Z) : iZm w ρ cs P Z := h
end
end DL
namespace DL
open PySem L2
def halfB (b : Bx) (ws : List Int) (p : Bool × Nat) (h : Bool) : Bx := if h then sndB b ws p.2 p.1 else fstB b ws p.2 p.1
def halfW (ws : List Int) (k : Nat) (h : Bool) : List Int := if h then ws.drop k else ws.take k
def bitD (h : Bool) : D := .int (if h then 1 else 0)
/-- a paper's pair: which half, and its paper -/
def PairOk (S : Bool → D → Prop) (x : D) : Prop := ∃ h e, x = .tup [bitD h, e] ∧ S h e
/-- the paper stands -/
def St (r : Rat) : Nat → Bx → List Int → D → Prop
  | 0, _, _, _ => False
  | n + 1, b, ws, d => (ws.length = 1 ∧ d = .tup [] ∧ r ≤ shapeR b.w b.h) ∨ (1 < ws.length ∧ ∃ xs, d = .tup xs ∧ xs.length = (spotL ws.length).length ∧ ∀ (i : Nat) (s : Bool × Nat) (x : D), (spotL ws.length)[i]? = some s → xs[i]? = some x → PairOk (fun h e => St r n (halfB b ws s h) (halfW ws s.2 h) e) x)
open Classical in
noncomputable def stB (r : Rat) (n : Nat) (b : Bx) (ws : List Int) (d : D) : Bool := decide (St r n b ws d)
mutual
def lnD (L : Nat) : D → Bool
  | .tup xs => decide (xs.length ≤ L) && lnL L xs
  | .lst xs => decide (xs.length ≤ L) && lnL L xs
  | _ => true
def lnL (L : Nat) : List D → Bool
  | [] => true
  | d :: ds => lnD L d && lnL L ds
end
theorem lnL_iff {L : Nat} : ∀ {xs : List D}, lnL L xs = true ↔ ∀ x ∈ xs, lnD L x = true
  | [] => ⟨fun _ _ h => (nomatch h), fun _ => rfl⟩
  | d :: ds => by
    simp only [lnL, Bool.and_eq_true, List.mem_cons, forall_eq_or_imp, lnL_iff (xs := ds)]
mutual
theorem lnD_mono {L M : Nat} (h : L ≤ M) : ∀ (d : D), lnD L d = true → lnD M d = true
  | .tup xs, q => by
    simp only [lnD, Bool.and_eq_true, decide_eq_true_eq] at q ⊢
    exact ⟨by omega, lnL_mono h xs q.2⟩
  | .lst xs, q => by
    simp only [lnD, Bool.and_eq_true, decide_eq_true_eq] at q ⊢
    exact ⟨by omega, lnL_mono h xs q.2⟩
  | .non, _ => rfl
  | .bl _, _ => rfl
  | .int _, _ => rfl
  | .str _, _ => rfl
  | .dic _, _ => rfl
  | .dct _, _ => rfl
  | .ins _ _, _ => rfl
  | .xcp _ _ _ _, _ => rfl
  | .opq _, _ => rfl
theorem lnL_mono {L M : Nat} (h : L ≤ M) : ∀ (d : List D), lnL L d = true → lnL M d = true
  | [], _ => rfl
  | d :: ds, q => by
    simp only [lnL, Bool.and_eq_true] at q ⊢
    exact ⟨lnD_mono h d q.1, lnL_mono h ds q.2⟩
end
/-- such data: so deep, so wide -/
structure Fw (N L : Nat) (d : D) : Prop where
  p : plD N d = true
  l : lnD L d = true
theorem Fw.tup {N L : Nat} {xs : List D} (h : Fw (N + 1) L (.tup xs)) : xs.length ≤ L ∧ ∀ x ∈ xs, Fw N L x := by
  have l := h.l
  simp only [lnD, Bool.and_eq_true, decide_eq_true_eq] at l
  exact ⟨l.1, fun x hx => ⟨plL_mem (plD_t h.p) hx, lnL_iff.mp l.2 x hx⟩⟩
theorem Fw.mono {N L M : Nat} {d : D} (h : Fw N L d) (hL : L ≤ M) : Fw N M d := ⟨h.p, lnD_mono hL d h.l⟩
end DL
namespace DL
open PySem L2
end DL
namespace DL
open PySem PySem.Spec PyProof.Rows L2
section
variable {X : Cx} {W : WX} {e : Expr} {we : DL.WE} {K : PySem.W.Frag}
def oRevL : D → Cs → DP → Prop := fun x cs P => ∃ xs, x = .lst xs ∧ P (.lst xs.reverse) cs
def wRevL (we : DL.WE) : DL.WE := fun ρ cs P Z => we ρ cs (fun x cs1 => oRevL x cs1 P) Z
theorem r_revL {ρ : DL.Env} {cs : Cs} {P : DP} {Z : XZ} (h : we ρ cs (fun x cs1 => oRevL x cs1 P) Z) : wRevL we ρ cs P Z := h
theorem r_revLL {xs : List D} {cs : Cs} {P : DP} (h : P (.lst xs.reverse) cs) : oRevL (.lst xs) cs P := ⟨xs, rfl, h⟩
end
end DL
namespace DL
open PySem PySem.Spec PyProof.Rows L2
/-- the first word that is due -/
def andW (a b : Str) : Str := if a = "" then b else a
theorem andW_r {b : Str} : andW "" b = b := if_pos rfl
theorem andW_l {a b : Str} (h : a ≠ "") : andW a b = a := if_neg h
def badW (k : Bool) (n : Str) : Str := if k then "" else n
theorem badW_t {k : Bool} {n : Str} (h : k = true) : badW k n = "" := by rw [h]; rfl
theorem badW_f {k : Bool} {n : Str} (h : k = false) : badW k n = n := by rw [h]; rfl
/-- what is asked of a check -/
structure Due (y : Str) (P : Prop) (Q : Str → Prop) : Prop where
  ok : y = "" → P
  no : y ≠ "" → Q y
theorem Due.of {y : Str} {P : Prop} {Q : Str → Prop} (e : y = "") (h : P) : Due y P Q := ⟨fun _ => h, fun z => absurd e z⟩
end DL
namespace DL
open PySem PySem.Spec PyProof.Rows L2
section
variable {X : Cx} {W : WX} {K : PySem.W.Frag} {σ : L2.St} {H : Hp} {a b e tg : Expr} {es : List Expr} {wa wb we wo : DL.WE} {w : WA} {pos apos cpos : Pos}
/-- one sign -/
abbrev sgn (c : Nat) : D := .str ⟨#[c]⟩
def oIxS : DO2 := fun x y cs P => match x, y with
  | .str z, .int i => z.length ≤ 100000 ∧ ∃ c, atI z.cps.toList i = some c ∧ P (sgn c) cs
  | _, _ => False
theorem adq_ixS : Adq K (rIx K) oIxS := fun F cs H x y dx dy P Q s rx ry ho pe => by
  unfold oIxS at ho
  split at ho
  · obtain ⟨hz, c, e2, h⟩ := ho
    cases rx
    cases ry
    exact .inr (.inr ⟨_, _, c, rfl, rfl, Nat.le_trans hz (by decide), e2, pe H cs _ _ s (.str _) h⟩)
  · exact ho.elim
theorem d_ixS (ha : DE X W a wa) (hb : DE X W b wb) (hs : PlainIx b := by intro _ _; rfl) : DE X W (.Subscript a b pos) (wOp oIxS wa wb) := d_ix ix_seq adq_ixS ha hb hs
def oCatS : DO2 := fun x y cs P => match x, y with
  | .str i, .str j => i.length + j.length ≤ 100000 ∧ P (.str (i ++ j)) cs
  | _, _ => False
def oInS : DO2 := fun x y cs P => match y with
  | .str z => ∃ c, x = sgn c ∧ P (.bl (decide (c ∈ z.cps.toList))) cs
  | _ => False
def iStrD (we : DL.WE) : WI := fun ρ cs P Z => we ρ cs (fun d cs1 => match d with
  | .str z => P (z.cps.toList.map sgn) cs1
  | _ => False) Z
def strsOf : List D → Option (List Str)
  | [] => some []
  | .str x :: r => (strsOf r).map (x :: ·)
  | _ => none
theorem strsOf_inv : ∀ {ds : List D} {ns : List Str}, strsOf ds = some ns → ds = ns.map D.str
  | [], ns, h => by cases h; rfl
  | d :: r, ns, h => by
    cases d <;> try (simp [strsOf] at h; done)
    unfold strsOf at h
    cases e : strsOf r with
    | none => rw [e] at h; cases h
    | some ms => rw [e] at h; cases h; rw [strsOf_inv e]; rfl
/-- x.m(y), x a text -/
def wM1 (o : DO2) (wo we : DL.WE) : DL.WE := fun ρ cs P Z => wo ρ cs (fun x cs1 => (∃ z, x = .str z) ∧ we ρ cs1 (fun y cs2 => o x y cs2 P) Z) Z
theorem m1_ok {r : V → List V → Hp → VK → Prop} {o : DO2} (adq : Adq K (fun x y H Q => r x [y] H Q) o) {Q : VK} : lE K W (wM1 o wo we) σ H Q → tM1 r (lE K W wo) (lE K W we) σ H Q := by
  rintro ⟨F, cs, ρ, P, Z, s, re, hw, pe, px⟩
  refine ⟨F, cs, ρ, _, Z, s, re, hw, fun H1 cs1 v d s1 r1 h1 => ?_, px⟩
  obtain ⟨⟨z, rfl⟩, h1⟩ := h1
  refine ⟨by cases r1; exact ⟨_, rfl⟩, F, cs1, ρ, _, Z, s1.self, re.mono s1.gr, h1, fun H2 cs2 v2 d2 s2 r2 h2 => ?_, px.le s1.gr⟩
  exact adq F cs2 H2 v v2 _ d2 P Q s2.self (r1.mono s2.gr) r2 h2 (pe.le (s1.gr.trans s2.gr))
def oJoin : DO2 := fun x y cs P => match x, y with
  | .str z, .lst xs => ∃ ns : List Str, strsOf xs = some ns ∧ (ns.map (·.length)).sum + ns.length * z.length ≤ 100000 ∧ P (.str (Str.join z ns)) cs
  | _, _ => False
theorem adq_join : Adq K (fun x y H Q => ∃ a p, ∃ ys : List Str, x = .str a ∧ [y] = [.ref p] ∧ (SqL K H p (ys.map V.str) ∨ SqT K H p (ys.map V.str)) ∧ (ys.map (·.length)).sum + ys.length * a.length ≤ 16777216 ∧ Q (.str (Txt.join a ys)) H) oJoin := fun F cs H x y dx dy P Q s rx ry ho pe => by
  unfold oJoin at ho
  split at ho
  · obtain ⟨ns, h1, h2, h3⟩ := ho
    have e1 := strsOf_inv h1
    subst e1
    cases rx
    cases ry with
    | lst h r =>
      have e2 := RepL.strs ns r
      subst e2
      exact ⟨_, _, ns, rfl, rfl, .inl (ex_l pur_le h), Nat.le_trans h2 (by decide), by rw [TL.join_eq]; exact pe H cs _ _ s (.str _) h3⟩
  · exact ho.elim
theorem d_join (ho : DE X W a wa) (he : DE X W e we) (hs : starEach [e] X.env = [(false, eval e X.env)] := by rfl) (hbase : attributeBase a "join" X.env (eval a X.env) = eval a X.env := by rfl) (hline : (apos.endLine == pos.line) = true := by rfl) :
    DE X W (.Call (.Attribute a "join" apos) [e] [] pos) (wM1 oJoin wa we) := PE.imp (pe_join ho he hs hbase hline) fun σ H Q h => m1_ok adq_join h
def wFmt (we : DL.WE) : DL.WE := fun ρ cs P Z => we ρ cs (fun x cs1 => match x with
  | .str y => y.length ≤ 100000 ∧ P (.str y) cs1
  | .int i => i.natAbs.log2 < 1920 ∧ P (.str (toString i : String)) cs1
  | _ => False) Z
def wJs : List DL.WE → Str → Env → Cs → (Str → Cs → Prop) → XZ → Prop
  | [], acc, _, cs, Q, _ => Q acc cs
  | we :: ws, acc, ρ, cs, Q, Z => we ρ cs (fun x cs1 => match x with
    | .str y => (acc ++ y).length ≤ 100000 ∧ wJs ws (acc ++ y) ρ cs1 Q Z
    | _ => False) Z
def wJoined (ws : List DL.WE) : DL.WE := fun ρ cs P Z => wJs ws Str.empty ρ cs (fun y cs1 => P (.str y) cs1) Z
end
section
variable {ρ : DL.Env} {cs : Cs} {P : DP} {Z : XZ} {we wo : DL.WE} {z t : Str}
theorem r_ixS {i : Int} {c : Nat} (hz : z.length ≤ 100000) (e : atI z.cps.toList i = some c) (h : P (sgn c) cs) : oIxS (.str z) (.int i) cs P := ⟨hz, c, e, h⟩
theorem r_catS (hz : z.length + t.length ≤ 100000) (h : P (.str (z ++ t)) cs) : oCatS (.str z) (.str t) cs P := ⟨hz, h⟩
theorem r_inS {c : Nat} (h : P (.bl (decide (c ∈ z.cps.toList))) cs) : oInS (sgn c) (.str z) cs P := ⟨c, rfl, h⟩
theorem r_strI {R : List D → Cs → Prop} (h : we ρ cs (fun d cs1 => match d with | .str z => R (z.cps.toList.map sgn) cs1 | _ => False) Z) : iStrD we ρ cs R Z := h
theorem r_m1 {o : DO2} (h : wo ρ cs (fun x cs1 => (∃ z, x = .str z) ∧ we ρ cs1 (fun y cs2 => o x y cs2 P) Z) Z) : wM1 o wo we ρ cs P Z := h
theorem r_isStr {R : Prop} (h : R) : (∃ z', D.str z = .str z') ∧ R := ⟨⟨_, rfl⟩, h⟩
theorem r_joinS {ns : List Str} {xs : List D} (e : strsOf xs = some ns) (hz : (ns.map (·.length)).sum + ns.length * z.length ≤ 100000) (h : P (.str (Str.join z ns)) cs) : oJoin (.str z) (.lst xs) cs P := ⟨ns, e, hz, h⟩
theorem r_fmt (h : we ρ cs (fun x cs1 => match x with
  | .str y => y.length ≤ 100000 ∧ P (.str y) cs1
  | .int i => i.natAbs.log2 < 1920 ∧ P (.str (toString i : String)) cs1
  | _ => False) Z) : wFmt we ρ cs P Z := h
theorem r_joined {ws : List DL.WE} (h : wJs ws Str.empty ρ cs (fun y cs1 => P (.str y) cs1) Z) : wJoined ws ρ cs P Z := h
theorem r_jsC {ws : List DL.WE} {acc : Str} {Q : Str → Cs → Prop} (h : we ρ cs (fun x cs1 => match x with
    | .str y => (acc ++ y).length ≤ 100000 ∧ wJs ws (acc ++ y) ρ cs1 Q Z
    | _ => False) Z) : wJs (we :: ws) acc ρ cs Q Z := h
theorem r_jsN {acc : Str} {Q : Str → Cs → Prop} (h : Q acc cs) : wJs [] acc ρ cs Q Z := h
end
theorem len_tl (x : Str) : x.length = (TL.tl x).length := TL.len_tl x
/-- small letters, one to eight -/
structure LowOk (x : Str) : Prop where
  l0 : 1 ≤ x.length
  l1 : x.length ≤ 8
  low : ∀ c ∈ TL.tl x, 97 ≤ c ∧ c ≤ 122
def mkS (l : List Nat) : Str := ⟨l.toArray⟩
theorem tl_mkS (l : List Nat) : TL.tl (mkS l) = l := rfl
theorem joinL_nil : ∀ l : List Nat, TL.joinL [] (l.map fun c => [c]) = l
  | [] => rfl
  | [c] => rfl
  | c :: d :: r => by
    have ih := joinL_nil (d :: r)
    show [c] ++ [] ++ TL.joinL [] ((d :: r).map fun c => [c]) = _
    rw [ih]; rfl
theorem join_sgn (l : List Nat) : Str.join (Str.ofString "") (l.map fun c => (⟨#[c]⟩ : Str)) = mkS l := by
  refine TL.ext_tl ?_
  rw [TL.tl_join, List.map_map, tl_mkS]
  have e : TL.tl (Str.ofString "") = [] := by decide +kernel
  rw [e]
  exact joinL_nil l
theorem strsOf_sgn : ∀ l : List Nat, strsOf (l.map sgn) = some (l.map fun c => (⟨#[c]⟩ : Str))
  | [] => rfl
  | c :: l => by rw [List.map_cons]; unfold strsOf; rw [strsOf_sgn l]; rfl
theorem sum_sgn (l : List Nat) : ((l.map fun c => (⟨#[c]⟩ : Str)).map (·.length)).sum = l.length := by
  induction l with
  | nil => rfl
  | cons c l ih => rw [List.map_cons, List.map_cons, List.sum_cons, ih, List.length_cons]; show 1 + _ = _; omega
def lettersS : Str := Str.ofString "abcdefghijklmnopqrstuvwxyz"
theorem tl_letters : TL.tl lettersS = (List.range 26).map (97 + ·) := by decide +kernel
theorem letter_at {g : Int} (h0 : 0 ≤ g) (h1 : g < 26) : atI lettersS.cps.toList g = some (97 + g.toNat) := by
  rw [show lettersS.cps.toList = (List.range 26).map (97 + ·) from tl_letters]
  unfold atI ixN
  rw [if_pos h0, if_pos (by rw [List.length_map, List.length_range]; exact h1)]
  show ((List.range 26).map (97 + ·))[g.toNat]? = _
  rw [List.getElem?_map, List.getElem?_range (by omega)]
  rfl
/-- so many names, no two alike -/
structure NamesOk (ns : List Str) (m : Nat) : Prop where
  len : ns.length = m
  nd : ns.Nodup
  ok : ∀ x ∈ ns, LowOk x
theorem step_ne {s : Int} (hs : s ∈ ([1, 3, 5, 7, 9, 11, 15, 25] : List Int)) {d : Nat} (h0 : 0 < d) (h1 : d < 26) : (s * d) % 26 ≠ 0 := by
  have key : (([1, 3, 5, 7, 9, 11, 15, 25] : List Int).all fun s => (List.range 26).all fun d => d == 0 || decide ((s * (d : Int)) % 26 ≠ 0)) = true := by decide +kernel
  have k2 := List.all_eq_true.mp (List.all_eq_true.mp key s hs) d (List.mem_range.mpr h1)
  rw [Bool.or_eq_true] at k2
  rcases k2 with k2 | k2
  · have := beq_iff_eq.mp k2; omega
  · exact of_decide_eq_true k2
theorem nodup_at {ns : List Str} {pl : Nat} {b s : Int} (hs : s ∈ ([1, 3, 5, 7, 9, 11, 15, 25] : List Int)) (hl : ns.length ≤ 26)
    (h : ∀ (i : Nat) (x : Str), ns[i]? = some x → (TL.tl x)[pl]? = some (97 + ((b + s * (i : Int)) % 26).toNat)) : ns.Nodup := by
  rw [List.nodup_iff_pairwise_ne, List.pairwise_iff_getElem]
  intro i j hi hj hij e
  have h1 := h i ns[i] (List.getElem?_eq_getElem hi)
  have h2 := h j ns[j] (List.getElem?_eq_getElem hj)
  rw [e, h2] at h1
  have h3 := Option.some.inj h1
  have hz := step_ne hs (d := j - i) (by omega) (by omega)
  have e1 : s * ((j - i : Nat) : Int) = s * (j : Int) - s * (i : Int) := by
    rw [show ((j - i : Nat) : Int) = (j : Int) - (i : Int) by omega, Int.mul_sub]
  rw [e1] at hz
  generalize s * (j : Int) = u at *
  generalize s * (i : Int) = v at *
  omega
end DL
namespace DL
open PySem
open PySem.Sem (wp)
theorem zip_nolen : typeLookup (.type "zip") "__len__" = pure none := by rw [typeLookup_type, builtinLookup_eq_fast]; kernel_rfl
theorem zip_nohint : typeLookup (.type "zip") "__length_hint__" = pure none := by rw [typeLookup_type, builtinLookup_eq_fast]; kernel_rfl
/-- a zip of two lists after i turns, its pairs kept by others -/
structure ZlSt (h : Heap) (z TI TO i1 i2 l1 l2 S : Addr) (xs ys : Array Value) (i : Nat) : Prop where
  pTI : IsPair h TI (.ref i1) (.ref i2)
  p1 : h.IsListIter i1 l1 i
  p2 : h.IsListIter i2 l2 i
  q1 : h.IsList l1 xs
  q2 : h.IsList l2 ys
  pz : (IsZip h z TI TO .none ∧ ∃ a b, IsPair h TO a b) ∨ ∃ T f oT, IsZipHeld h z TI TO T f ∧ h.get? T = some oT ∧ T ≠ z ∧ T ≠ i1 ∧ T ≠ i2 ∧ T ≠ S
/-- the pairs' places, one behind the other -/
structure ZlG (xs ys : Array Value) (lo : Addr) (h : Heap) (as : List Addr) : Prop where
  rise : as.Pairwise (· < ·)
  above : ∀ a ∈ as, lo < a
  pairs : ∀ (j : Nat) (a : Addr), as[j]? = some a → ∃ x y, xs[j]? = some x ∧ ys[j]? = some y ∧ IsPair h a x y
theorem ZlG.there {xs ys : Array Value} {lo : Addr} {h : Heap} {as : List Addr} (g : ZlG xs ys lo h as) {a : Addr} (ha : a ∈ as) : a < h.objs.size := by
  obtain ⟨j, hj⟩ := List.mem_iff_getElem?.mp ha
  obtain ⟨_, _, _, _, e⟩ := g.pairs j a hj
  exact Heap.lt_size e
section
variable {prog : Program} {w : World} {A : Around} {E : Value → Shared → Prop} {s : Shared} {z TI TO i1 i2 l1 l2 S : Addr} {xs ys : Array Value} {i : Nat}
theorem ZlSt.keep {h h' : Heap} (st : ZlSt h z TI TO i1 i2 l1 l2 S xs ys i) (hk : ∀ b o, b ≠ S → h.get? b = some o → h'.get? b = some o) (hS : ∀ c ∈ [z, TI, TO, i1, i2, l1, l2], S ≠ c) : ZlSt h' z TI TO i1 i2 l1 l2 S xs ys i := by
  obtain ⟨hTI, h1, h2, hl1, hl2, hz⟩ := st
  refine ⟨hk _ _ (hS TI (by simp)).symm hTI, h1.at fun o e => hk _ o (hS i1 (by simp)).symm e, h2.at fun o e => hk _ o (hS i2 (by simp)).symm e, hl1.at fun o e => hk _ o (hS l1 (by simp)).symm e, hl2.at fun o e => hk _ o (hS l2 (by simp)).symm e, ?_⟩
  rcases hz with ⟨hz, a, b, hTO⟩ | ⟨T, f, oT, hz, hT, r1, r2, r3, r4⟩
  · exact .inl ⟨hk _ _ (hS z (by simp)).symm hz, a, b, hk _ _ (hS TO (by simp)).symm hTO⟩
  · exact .inr ⟨T, f, oT, hk _ _ (hS z (by simp)).symm hz, hk _ _ r4 hT, r1, r2, r3, r4⟩
theorem zl_item {x y : Value} {Q : Option Value → Shared → Prop} (D : ZipApart z TI TO i1 i2 l1 l2) (st : ZlSt s.heap z TI TO i1 i2 l1 l2 S xs ys i) (hS : S < s.heap.objs.size) (ex : xs[i]? = some x) (ey : ys[i]? = some y)
    (hQ : ∀ h', ZlSt h' z TI TO i1 i2 l1 l2 S xs ys (i + 1) → IsPair h' s.heap.objs.size x y → h'.objs.size = s.heap.objs.size + 1 →
      (∀ c o, c ≠ z → c ≠ TO → c ≠ i1 → c ≠ i2 → s.heap.get? c = some o → h'.get? c = some o) → Q (some (.ref s.heap.objs.size)) { s with heap := h' }) :
    wpAny (model prog w) A (pyNext (.ref z)) Q E s := by
  obtain ⟨hTI, h1, h2, hl1, hl2, hz⟩ := st
  have lt : ∀ {c o}, s.heap.get? c = some o → s.heap.objs.size ≠ c := fun e => Nat.ne_of_gt (Heap.lt_size e)
  have n1 : s.heap.objs.size ≠ i1 := let ⟨_, e, _⟩ := h1; lt e
  have n2 : s.heap.objs.size ≠ i2 := let ⟨_, e, _⟩ := h2; lt e
  rcases hz with ⟨hz, a, b, hTO⟩ | ⟨T, f, oT, hz, hT, r1, r2, r3, r4⟩
  · refine wpAny_pyNext_zip_item D hz hTI hTO h1 h2 hl1 hl2 ex ey fun h' a1 a2 a3 a4 a5 a6 hk => ?_
    exact hQ h' ⟨hk _ _ D.TIz D.TITO D.TIi1 D.TIi2 hTI, a3, a4, hl1.at fun o e => hk _ o D.l1z D.l1TO D.l1i1 D.l1i2 e, hl2.at fun o e => hk _ o D.l2z D.l2TO D.l2i1 D.l2i2 e,
      .inr ⟨s.heap.objs.size, false, _, a1, a5, lt hz, n1, n2, Nat.ne_of_gt hS⟩⟩ a5 a6 hk
  · refine wpAny_pyNext_zip_item_held D hz hT hTI h1 h2 hl1 hl2 ex ey fun h' a1 a3 a4 a5 a6 hk => ?_
    exact hQ h' ⟨hk _ _ D.TIz D.TIi1 D.TIi2 hTI, a3, a4, hl1.at fun o e => hk _ o D.l1z D.l1i1 D.l1i2 e, hl2.at fun o e => hk _ o D.l2z D.l2i1 D.l2i2 e,
      .inr ⟨T, true, oT, a1, hk _ _ r1 r2 r3 hT, r1, r2, r3, r4⟩⟩ a5 a6 fun c o c1 _ c3 c4 e => hk c o c1 c3 c4 e
theorem zl_done {Q : Option Value → Shared → Prop} (hh : A.handled = none) (D : ZipApart z TI TO i1 i2 l1 l2) (st : ZlSt s.heap z TI TO i1 i2 l1 l2 S xs ys i) (hend : xs[i]? = none ∨ ys[i]? = none)
    (hQ : ∀ h', (∀ c o, c ≠ z → c ≠ TO → c ≠ i1 → c ≠ i2 → s.heap.get? c = some o → h'.get? c = some o) → Q none { s with heap := h' }) : wpAny (model prog w) A (pyNext (.ref z)) Q E s := by
  obtain ⟨hTI, h1, h2, hl1, hl2, hz⟩ := st
  rcases hz with ⟨hz, a, b, hTO⟩ | ⟨T, f, oT, hz, hT, r1, r2, r3, r4⟩
  · exact wpAny_pyNext_zip_end hh D hz hTI hTO h1 h2 hl1 hl2 hend hQ
  · exact wpAny_pyNext_zip_end_held hh D hz hT hTI h1 h2 hl1 hl2 hend fun h' hk => hQ h' fun c o c1 _ c3 c4 e => hk c o c1 c3 c4 e
theorem zl_loop {R : Result → Shared → Prop} (hh : A.handled = none) (D : ZipApart z TI TO i1 i2 l1 l2) (hS : ∀ c ∈ [z, TI, TO, i1, i2, l1, l2], S ≠ c) (hlow : ∀ c ∈ [z, TO, i1, i2], c < S) (hn : min xs.size ys.size ≤ sizeLine) (res : Value) {h₁ : Heap}
    (hR : ∀ h' tk acc c as, (∀ b o, b ≠ S → b ≠ z → b ≠ TO → b ≠ i1 → b ≠ i2 → h₁.get? b = some o → h'.get? b = some o) → h'.get? S = some { cls := .type "list", dict := none, data := .seq acc c, slots := #[] } → as.length = min xs.size ys.size → ZlG xs ys S h' as →
      acc.toList = as.map Value.ref → R (.ok (.ret res)) { s with heap := h', toks := tk }) :
    ∀ (k i : Nat) (h : Heap) (tk c : Nat) (acc : Array Value) (as : List Addr), min xs.size ys.size - i = k → i ≤ min xs.size ys.size → ZlSt h z TI TO i1 i2 l1 l2 S xs ys i → (∀ b o, b ≠ S → b ≠ z → b ≠ TO → b ≠ i1 → b ≠ i2 → h₁.get? b = some o → h.get? b = some o) →
      h.get? S = some { cls := .type "list", dict := none, data := .seq acc c, slots := #[] } → acc.toList = as.map Value.ref → as.length = i → ZlG xs ys S h as →
      codeAny (model prog w) A (.builtin "list.extend.loop" ⟨[.ref S, .ref z, res], []⟩) R { s with heap := h, toks := tk } := by
  intro k
  have Sz : S ≠ z := hS z (by simp)
  have STO : S ≠ TO := hS TO (by simp)
  have S1 : S ≠ i1 := hS i1 (by simp)
  have S2 : S ≠ i2 := hS i2 (by simp)
  induction k with
  | zero =>
    intro i h tk c acc as hk hi hst hkeep hSh hacc hal hG
    refine codeAny_builtin PySem.F.entry_extend_loop ?_
    rw [Around.under_plainId PySem.F.plain_extend_loop _]
    show wpAny _ A.in1 (pyNext (.ref z) >>= _) _ _ _
    have hend : xs[i]? = none ∨ ys[i]? = none := by
      by_cases q : xs.size ≤ i
      · exact .inl (Array.getElem?_eq_none q)
      · exact .inr (Array.getElem?_eq_none (by omega))
    refine wpAny_bind (zl_done (s := { s with heap := h, toks := tk }) (A := A.in1) hh D hst hend fun h' he => ?_)
    have hlo : ∀ a ∈ as, ∀ c ∈ [z, TO, i1, i2], a ≠ c := fun a ha c hc e => by
      have q1 := hG.above a ha
      have q2 := hlow c hc
      rw [e] at q1
      exact absurd q1 (Nat.not_lt.mpr (Nat.le_of_lt q2))
    refine wpAny_pure (hR h' tk acc c as (fun b o b0 b1 b2 b3 b4 e => he b o b1 b2 b3 b4 (hkeep b o b0 b1 b2 b3 b4 e)) (he S _ Sz STO S1 S2 hSh) (by omega) ⟨hG.rise, hG.above, fun j a hj => ?_⟩ hacc)
    obtain ⟨x, y, e1, e2, e3⟩ := hG.pairs j a hj
    have ha := List.mem_of_getElem? hj
    exact ⟨x, y, e1, e2, he a _ (hlo a ha z (by simp)) (hlo a ha TO (by simp)) (hlo a ha i1 (by simp)) (hlo a ha i2 (by simp)) e3⟩
  | succ k ih =>
    intro i h tk c acc as hk hi hst hkeep hSh hacc hal hG
    have hlt : i < min xs.size ys.size := by omega
    have ex : xs[i]? = some xs[i] := Array.getElem?_eq_getElem (by omega)
    have ey : ys[i]? = some ys[i] := Array.getElem?_eq_getElem (by omega)
    have hsz : acc.size = i := by rw [← Array.length_toList, hacc, List.length_map, hal]
    refine codeAny_builtin PySem.F.entry_extend_loop ?_
    rw [Around.under_plainId PySem.F.plain_extend_loop _]
    show wpAny _ A.in1 (pyNext (.ref z) >>= _) _ _ _
    refine wpAny_bind (zl_item (s := { s with heap := h, toks := tk }) D hst (Heap.lt_size hSh) ex ey fun h' hst' ht hz hkp => ?_)
    dsimp only at ht hz hkp ⊢
    have hSh' := hkp S _ Sz STO S1 S2 hSh
    have up : ∀ b o, b ≠ S → h'.get? b = some o → (h'.update S (Obj.mapSeq (·.push (Value.ref h.objs.size)))).get? b = some o := fun b o hb e => (Heap.get?_update_other _ _ (Ne.symm hb)).trans e
    have hSl : S < h.objs.size := Heap.lt_size hSh
    show wpAny _ A.in1 (updateSeq S (·.push (Value.ref h.objs.size)) >>= _) _ _ _
    refine wpAny_bind ?_
    refine wpAny_updateSeq hSh' rfl (wpAny_pure ⟨plainId_quiet PySem.F.plain_extend_loop _, ih (i + 1) _ tk _ (acc.push (Value.ref h.objs.size)) (as ++ [h.objs.size]) (by omega) hlt (hst'.keep up hS)
      (fun b o b0 b1 b2 b3 b4 e => up b o b0 (hkp b o b1 b2 b3 b4 (hkeep b o b0 b1 b2 b3 b4 e))) (Heap.get?_update_self _ hSh' rfl) (by rw [Array.toList_push, hacc, List.map_append]; rfl) (by rw [List.length_append, hal]; rfl) ⟨?_, ?_, ?_⟩⟩) (by rw [hsz]; omega) (by show (acc.push (Value.ref h.objs.size)).size ≤ sizeLine + 1; rw [Array.size_push, hsz]; omega)
    · refine List.pairwise_append.mpr ⟨hG.rise, List.pairwise_singleton _ _, fun a ha b hb => ?_⟩
      rw [List.mem_singleton.mp hb]
      exact hG.there ha
    · intro a ha
      rcases List.mem_append.mp ha with ha | ha
      · exact hG.above a ha
      · rw [List.mem_singleton.mp ha]; exact hSl
    · intro j b hj
      rcases Nat.lt_trichotomy j as.length with h1 | h1 | h1
      · rw [List.getElem?_append_left h1] at hj
        obtain ⟨x', y', e1, e2, e3⟩ := hG.pairs j b hj
        have hb := hG.above b (List.mem_of_getElem? hj)
        have ne : ∀ c ∈ [z, TO, i1, i2], b ≠ c := fun c hc e => by
          have q2 := hlow c hc
          rw [e] at hb
          exact absurd hb (Nat.not_lt.mpr (Nat.le_of_lt q2))
        exact ⟨x', y', e1, e2, up b _ (Nat.ne_of_gt hb) (hkp b _ (ne z (by simp)) (ne TO (by simp)) (ne i1 (by simp)) (ne i2 (by simp)) e3)⟩
      · subst h1
        have hb : h.objs.size = b := by simpa using hj
        subst hb
        exact ⟨_, _, by rw [hal]; exact ex, by rw [hal]; exact ey, up _ _ (Nat.ne_of_gt hSl) ht⟩
      · have hnone : (as ++ [h.objs.size])[j]? = none := List.getElem?_eq_none (by rw [List.length_append, List.length_singleton]; omega)
        rw [hnone] at hj; cases hj
theorem zl_extend {R : Result → Shared → Prop} (hh : A.handled = none) (D : ZipApart z TI TO i1 i2 l1 l2) (hS : ∀ c ∈ [z, TI, TO, i1, i2, l1, l2], S ≠ c) (hlow : ∀ c ∈ [z, TO, i1, i2], c < S) (st : ZlSt s.heap z TI TO i1 i2 l1 l2 S xs ys 0) (hz0 : IsZip s.heap z TI TO .none) (res : Value) (c₀ : Nat) (hSh : s.heap.get? S = some { cls := .type "list", data := .seq #[] c₀ })
    (hR : ∀ h' tk acc c as, (∀ b o, b ≠ S → b ≠ z → b ≠ TO → b ≠ i1 → b ≠ i2 → s.heap.get? b = some o → h'.get? b = some o) → h'.get? S = some { cls := .type "list", dict := none, data := .seq acc c, slots := #[] } → as.length = min xs.size ys.size → ZlG xs ys S h' as →
      acc.toList = as.map Value.ref → R (.ok (.ret res)) { s with heap := h', toks := tk }) (hn : min xs.size ys.size ≤ sizeLine) :
    wpAny (model prog w) A.in1 (Builtin.List.listExtendWith (.ref S) (.ref z) res)
      (fun fin s' => match fin with | .done f => R (.ok f) s' | .again c' => c'.quiet = true ∧ codeAny (model prog w) A c' R s') (fun e s' => R (.error e) s') s := by
  have Sz : S ≠ z := hS z (by simp)
  have hT : s.TypeIs (.ref z) "zip" := ⟨_, hz0, rfl⟩
  have key : ∀ (h : Heap) (c₁ tk : Nat), (∀ b o, b ≠ S → s.heap.get? b = some o → h.get? b = some o) →
      h.get? S = some { cls := .type "list", data := .seq #[] c₁ } → codeAny (model prog w) A (.builtin "list.extend.loop" ⟨[.ref S, .ref z, res], []⟩) R { s with heap := h, toks := tk } := by
    intro h c₁ tk hk hS₁
    exact zl_loop (s := s) (h₁ := s.heap) hh D hS hlow hn res hR _ 0 h tk c₁ #[] [] rfl (Nat.zero_le _) (st.keep hk hS) (fun b o b0 _ _ _ _ e => hk b o b0 e) hS₁ rfl rfl ⟨List.Pairwise.nil, (fun _ ha => nomatch ha), (fun j a hj => by simp at hj)⟩
  unfold Builtin.List.listExtendWith
  refine wpAny_bind (wpAny_typeOf hT ?_)
  have h1 : Builtin.List.listSameRef (.ref S) (.ref z) = false := by simp [Builtin.List.listSameRef, Sz]
  have h2 : (Value.type "zip" == Value.type "list") = false := by decide
  have h3 : (Value.type "zip" == Value.type "tuple") = false := by decide
  simp only [h1, h2, h3, Bool.or_false, Bool.false_eq_true, if_false]
  refine wpAny_bind (wpAny_pyIter_zip hz0 ?_)
  refine wpAny_bind (wpAny_holding ?_)
  unfold Builtin.List.listLengthHint
  refine wpAny_bind (wpAny_specialOf hT zip_nolen ?_)
  show wpAny _ A.in1 (specialOf (Value.ref z) (Str.ofString "__length_hint__") >>= _) _ _ _
  refine wpAny_bind (wpAny_specialOf hT zip_nohint ?_)
  refine wpAny_pure ?_
  show wpAny _ A.in1 (rule "list.extend.makes-room" >>= fun _ => Builtin.List.listTouch (.ref S) >>= fun _ =>
    again (.builtin "list.extend.loop" ⟨[.ref S, .ref z, res], []⟩)) _ _ _
  refine wpAny_bind (wpAny_rule ?_)
  refine wpAny_bind ?_
  show wpAny _ A.in1 (updateSeq S (·.push .none) >>= fun _ => updateSeq S (·.pop)) _ _ _
  refine wpAny_bind (wpAny_updateSeq hSh rfl ?_)
  have hS₂ := Heap.get?_update_self (Obj.mapSeq (·.push Value.none)) hSh rfl
  refine wpAny_updateSeq (hz := by seq_fits) hS₂ rfl ?_
  have hS₃ := Heap.get?_update_self (Obj.mapSeq (·.pop)) hS₂ rfl
  refine wpAny_pure ⟨plainId_quiet PySem.F.plain_extend_loop _, key _ _ _ (fun b o hb e => ?_) hS₃⟩
  exact (Heap.get?_update_other _ _ (Ne.symm hb)).trans ((Heap.get?_update_other _ _ (Ne.symm hb)).trans e)
theorem zl_init {R : Result → Shared → Prop} (hh : A.handled = none) (D : ZipApart z TI TO i1 i2 l1 l2) (hS : ∀ c ∈ [z, TI, TO, i1, i2, l1, l2], S ≠ c) (hlow : ∀ c ∈ [z, TO, i1, i2], c < S) (st : ZlSt s.heap z TI TO i1 i2 l1 l2 S xs ys 0) (hz0 : IsZip s.heap z TI TO .none) (hSh : s.heap.get? S = some { cls := .type "list", data := .seq #[] })
    (hR : ∀ h' tk acc c as, (∀ b o, b ≠ S → b ≠ z → b ≠ TO → b ≠ i1 → b ≠ i2 → s.heap.get? b = some o → h'.get? b = some o) → h'.get? S = some { cls := .type "list", dict := none, data := .seq acc c, slots := #[] } → as.length = min xs.size ys.size → ZlG xs ys S h' as →
      acc.toList = as.map Value.ref → R (.ok (.ret .none)) { s with heap := h', toks := tk }) (hn : min xs.size ys.size ≤ sizeLine) :
    wpAny (model prog w) A.in1 (Builtin.«list.__init__» ⟨[.ref S, .ref z], []⟩)
      (fun fin s' => match fin with | .done f => R (.ok f) s' | .again c' => c'.quiet = true ∧ codeAny (model prog w) A c' R s') (fun e s' => R (.error e) s') s := by
  show wpAny _ _ (do let old ← Builtin.List.listItems (.ref S); Builtin.List.listUpdate (.ref S) (fun _ => #[]); letGo old.toList.reverse; Builtin.List.listExtendWith (.ref S) (.ref z) .none) _ _ s
  refine wpAny_bind ?_
  unfold Builtin.List.listItems
  refine wpAny_bind (wpAny_seqItems hSh rfl (wpAny_pure ?_))
  show wpAny _ _ (updateSeq S (fun _ => #[]) >>= fun _ => letGo (#[] : Array Value).toList.reverse >>= fun _ => Builtin.List.listExtendWith (.ref S) (.ref z) .none) _ _ s
  refine wpAny_bind (wpAny_updateSeq hSh rfl ?_)
  have hS₂ := Heap.get?_update_self (Obj.mapSeq (fun _ => (#[] : Array Value))) hSh rfl
  have oth : ∀ b o, b ≠ S → s.heap.get? b = some o → (s.heap.update S (Obj.mapSeq (fun _ => (#[] : Array Value)))).get? b = some o :=
    fun b o hb e => (Heap.get?_update_other _ _ (Ne.symm hb)).trans e
  refine wpAny_bind (wpAny_letGo ?_)
  exact zl_extend hh D hS hlow (st.keep oth hS) (oth _ _ (hS z (by simp)).symm hz0) .none _ hS₂ (fun h' tk acc c as hk hS' hl hG hacc => hR h' tk acc c as (fun b o b0 b1 b2 b3 b4 e => hk b o b0 b1 b2 b3 b4 (oth b o b0 e)) hS' hl hG hacc) hn
/-- list(z) of a zip that has not begun -/
theorem zl_call {Q : Value → Shared → Prop} (hh : A.handled = none) (D : ZipApart z TI TO i1 i2 l1 l2) (hz0 : IsZip s.heap z TI TO .none) (hTI : IsPair s.heap TI (.ref i1) (.ref i2)) (hTO : ∃ a b, IsPair s.heap TO a b) (h1 : s.heap.IsListIter i1 l1 0) (h2 : s.heap.IsListIter i2 l2 0) (hl1 : s.heap.IsList l1 xs) (hl2 : s.heap.IsList l2 ys) (hn : min xs.size ys.size ≤ sizeLine)
    (hQ : ∀ h' tk acc c as, (∀ b o, b ≠ z → b ≠ TO → b ≠ i1 → b ≠ i2 → s.heap.get? b = some o → h'.get? b = some o) → h'.get? s.heap.objs.size = some { cls := .type "list", dict := none, data := .seq acc c, slots := #[] } → as.length = min xs.size ys.size → ZlG xs ys s.heap.objs.size h' as →
      acc.toList = as.map Value.ref → Q (.ref s.heap.objs.size) { s with heap := h', toks := tk }) :
    wpAny (model prog w) A (call (.type "list") [.ref z]) Q E s := by
  refine callType_codes (Q₁ := fun obj s₁ => obj = .ref s.heap.objs.size ∧ s₁ = { s with heap := s.heap.push { cls := .type "list", data := .seq #[] } }) PySem.F.called_list (PySem.F.typeCall_list_1 _) PySem.F.entry_list_init
    (code_list_new _ ⟨rfl, rfl⟩) fun obj s₁ h₁ => ?_
  obtain ⟨rfl, rfl⟩ := h₁
  have hSh : (s.heap.push { cls := .type "list", data := .seq #[] }).get? s.heap.objs.size = some { cls := .type "list", data := .seq #[] } := Heap.get?_push_size _ rfl
  obtain ⟨a, b, hTO⟩ := hTO
  have g1 : i1 < s.heap.objs.size := let ⟨_, e, _⟩ := h1; Heap.lt_size e
  have g2 : i2 < s.heap.objs.size := let ⟨_, e, _⟩ := h2; Heap.lt_size e
  have g3 : l1 < s.heap.objs.size := let ⟨_, e, _⟩ := hl1; Heap.lt_size e
  have g4 : l2 < s.heap.objs.size := let ⟨_, e, _⟩ := hl2; Heap.lt_size e
  have low : ∀ c ∈ [z, TI, TO, i1, i2, l1, l2], c < s.heap.objs.size := fun c hc => by
    simp only [List.mem_cons, List.not_mem_nil, or_false] at hc
    rcases hc with rfl | rfl | rfl | rfl | rfl | rfl | rfl
    · exact Heap.lt_size hz0
    · exact Heap.lt_size hTI
    · exact Heap.lt_size hTO
    · exact g1
    · exact g2
    · exact g3
    · exact g4
  have pu : ∀ b o, s.heap.get? b = some o → (s.heap.push { cls := .type "list", data := .seq #[] }).get? b = some o := fun b o e => Heap.get?_push_of_some _ e
  refine ⟨⟨_, hSh, rfl⟩, PySem.F.args_list_init_2 _ _, zl_init (A := A.in1) (z := z) (TI := TI) (TO := TO) (i1 := i1) (i2 := i2) (l1 := l1) (l2 := l2) (xs := xs) (ys := ys) hh D (fun c hc => Nat.ne_of_gt (low c hc)) (fun c hc => low c (by simp only [List.mem_cons, List.not_mem_nil, or_false] at hc ⊢; rcases hc with h | h | h | h <;> simp [h]))
    ⟨pu _ _ hTI, h1.at fun o e => pu _ _ e, h2.at fun o e => pu _ _ e, hl1.at fun o e => pu _ _ e, hl2.at fun o e => pu _ _ e, .inl ⟨pu _ _ hz0, a, b, pu _ _ hTO⟩⟩ (pu _ _ hz0) hSh (fun h' tk acc c as hk hS' hl hG hacc => ?_) hn⟩
  exact ⟨rfl, hQ h' tk acc c as (fun b o b1 b2 b3 b4 e => hk b o (Nat.ne_of_lt (Heap.lt_size e)) b1 b2 b3 b4 (Heap.get?_push_of_some _ e)) hS' hl hG hacc⟩
end
section
open PySem.Spec PyProof.Rows L2
def putP : Hp → List Addr → List (V × V) → Hp
  | H, a :: as, p :: ps => putP (upd H a (.tup [p.1, p.2])) as ps
  | H, _, _ => H
theorem putP_off {b : Addr} : ∀ (as : List Addr) (ps : List (V × V)) (H : Hp), b ∉ as → putP H as ps b = H b
  | [], _, _, _ => rfl
  | _ :: _, [], _, _ => rfl
  | a :: as, p :: ps, H, h => by
    show putP (upd H a (.tup [p.1, p.2])) as ps b = H b
    rw [putP_off as ps _ (fun z => h (List.mem_cons_of_mem _ z)), upd_ne (fun z => h (by rw [z]; exact List.mem_cons_self))]
theorem putP_at : ∀ (as : List Addr) (ps : List (V × V)) (H : Hp), as.length = ps.length → as.Nodup → Paired (fun (t : Addr) (p : V × V) => putP H as ps t = some (.tup [p.1, p.2])) as ps
  | [], [], _, _, _ => .nil
  | [], _ :: _, _, h, _ => by cases h
  | _ :: _, [], _, h, _ => by cases h
  | a :: as, p :: ps, H, h, hn => by
    have hn' := List.nodup_cons.mp hn
    have ih := putP_at as ps (upd H a (.tup [p.1, p.2])) (Nat.succ.inj h) hn'.2
    refine .cons ?_ ih
    show putP (upd H a (.tup [p.1, p.2])) as ps a = some (.tup [p.1, p.2])
    rw [putP_off as ps _ hn'.1, upd_same]
variable {X : Cx}
theorem pairs_laid {pins : List (Addr × Obj)} {σ : L2.St} {H : Hp} {s : Shared} {h' : Heap} {tk c : Nat} {us vs : List V} {its its2 : List Value} {acc : Array Value} {as : List Addr} {S : Addr} (I : Inv X pins σ H s) (hge : s.heap.objs.size ≤ S) (r1 : Vals us its) (r2 : Vals vs its2) (hz : as.length ≤ sizeLine)
    (hk : ∀ b o, s.heap.get? b = some o → h'.get? b = some o) (hS : h'.get? S = some { cls := .type "list", dict := none, data := .seq acc c, slots := #[] }) (hl : as.length = (us.zip vs).length) (hG : ZlG its.toArray its2.toArray S h' as) (hacc : acc.toList = as.map Value.ref) :
    ∃ H' : Hp, Ex H H' ∧ H S = none ∧ (∀ t ∈ as, H t = none) ∧ H' S = some (.lst (as.map V.ref)) ∧ Paired (fun (t : Addr) (q : V × V) => H' t = some (.tup [q.1, q.2])) as (us.zip vs) ∧ Inv X pins σ H' { s with heap := h', toks := tk } := by
  have hSn : S ∉ as := fun z => Nat.lt_irrefl _ (hG.above _ z)
  have nd : as.Nodup := List.Pairwise.imp (fun {a b} (h : a < b) => Nat.ne_of_lt h) hG.rise
  have new : ∀ t ∈ as, H t = none := fun t ht => I.hok.fresh (Nat.le_trans hge (Nat.le_of_lt (hG.above t ht)))
  have newS : H S = none := I.hok.fresh hge
  have atP := putP_at as (us.zip vs) (upd H S (.lst (as.map V.ref))) hl nd
  have off : ∀ b, b ∉ as → b ≠ S → putP (upd H S (.lst (as.map V.ref))) as (us.zip vs) b = H b := fun b h1 h2 => by rw [putP_off as _ _ h1, upd_ne h2]
  have low : ∀ b o, s.heap.get? b = some o → b ∉ as ∧ b ≠ S := fun b o e => ⟨fun z => absurd (Heap.lt_size e) (Nat.not_lt.mpr (Nat.le_trans hge (Nat.le_of_lt (hG.above b z)))), fun z => absurd (Heap.lt_size e) (Nat.not_lt.mpr (z ▸ hge))⟩
  have kp : ∀ b u, H b = some u → (putP (upd H S (.lst (as.map V.ref))) as (us.zip vs)) b = some u := fun b u e => by
    rw [off b (fun z => by rw [new b z] at e; cases e) (fun z => by rw [z, newS] at e; cases e)]
    exact e
  have eS : putP (upd H S (.lst (as.map V.ref))) as (us.zip vs) S = some (.lst (as.map V.ref)) := by rw [putP_off as _ _ hSn, upd_same]
  refine ⟨putP (upd H S (.lst (as.map V.ref))) as (us.zip vs), kp, newS, new, eS, atP, ?_⟩
  refine I.call' (ch := []) rfl ⟨fun b o q _ _ _ => hk b o q, fun b o q _ _ _ => ⟨o.slots, hk b o q⟩, fun b o q n _ => ?_, fun b o q _ => ⟨o, hk b o q⟩, fun b xs q => kp b _ q, fun b o u q => kp b _ q, fun b ps q => ⟨#[], by rw [kp b _ q]; simp⟩⟩ (fun b u q => ?_) I.bare fun b z => by simp at z
  · obtain ⟨z1, z2⟩ := low b o q
    rw [off b z1 z2]
    exact n
  · by_cases hb : b ∈ as
    · obtain ⟨j, pk, e1, e2, e3⟩ := LiI.paired_ix atP hb
      rw [e3] at q
      cases q
      obtain ⟨x, y, f1, f2, f3⟩ := hG.pairs j b e1
      obtain ⟨g1, g2⟩ := List.getElem?_zip_eq_some.mp e2
      obtain ⟨v1, k1, m1⟩ := r1.get g1
      obtain ⟨v2, k2, m2⟩ := r2.get g2
      have j1 : v1 = x := by
        have q1 : its[j]? = some x := by simpa using f1
        rw [k1] at q1; exact Option.some.inj q1
      have j2 : v2 = y := by
        have q1 : its2[j]? = some y := by simpa using f2
        rw [k2] at q1; exact Option.some.inj q1
      rw [j1] at m1
      rw [j2] at m2
      exact ⟨by show 2 ≤ sizeLine; decide, [x, y], .cons m1 (.cons m2 .nil), ⟨_, f3, rfl, _, rfl⟩⟩
    · by_cases hb2 : b = S
      · rw [hb2] at q ⊢
        rw [eS] at q
        cases q
        refine ⟨by rw [List.length_map]; omega, acc.toList, c, by rw [hacc]; exact LiI.vals_refs as, ?_⟩
        rw [Array.toArray_toList]
        exact hS
      · rw [off b hb hb2] at q
        exact (I.hok b u q).stay (fun d v _ y => hk d v y) (fun d y => kp d _ y) fun d xs y => kp d _ y
def tListZip (K : PySem.W.Frag) (ta : TA) : TE := fun σ H Q => ta σ H fun zs H1 => ∃ a b us vs, zs = [.ref a, .ref b] ∧ SqL K H1 a us ∧ SqL K H1 b vs ∧
  ∀ (H' : Hp) (p : Addr) (ts : List Addr), Ex H1 H' → H1 p = none → (∀ t ∈ ts, H1 t = none) → H' p = some (.lst (ts.map V.ref)) → Paired (fun (t : Addr) (q : V × V) => H' t = some (.tup [q.1, q.2])) ts (us.zip vs) → Q (.ref p) H'
theorem pe_listZip {e e2 : Expr} {ta : TA} {p p2 pos pos2 : Pos} (hc : X.calm = true) (hg : Gl X "list") (hm : X.mg "list" = none) (hg2 : Gl X "zip") (hm2 : X.mg "zip" = none) (ha : PA X [e, e2] ta)
    (hs : starEach [e, e2] X.env = (false, eval e X.env) :: starEach [e2] X.env := by rfl) (hpl : (backTo pos2 (starEach [e2] X.env)).any (·.1) = false := by rfl)
    (hs2 : starEach [.Call (.Name "zip" p2) [e, e2] [] pos2] X.env = (false, eval (.Call (.Name "zip" p2) [e, e2] [] pos2) X.env) :: starEach [] X.env := by rfl) :
    PE X (.Call (.Name "list" p) [.Call (.Name "zip" p2) [e, e2] [] pos2] [] pos) (tListZip X.K ta) := by
  refine ⟨fun pins s σ H Q I hq => ?_⟩
  refine Call_ (ld_blt I hg hm PyProof.Rows.boot_list ?_)
  refine PyProof.Rows.callWith_type1 ?_ hs2 rfl
  rw [hs2]
  show wpAny _ _ (spliced ((false, eval (.Call (.Name "zip" p2) [e, e2] [] pos2) X.env) :: backTo pos (starEach [] X.env))) _ _ s
  refine Calls.spliced_cons ?_
  refine Call_ (ld_blt I hg2 hm2 PyProof.Rows.boot_zip (PyProof.Rows.callWith_type1 (thn (ha.run pos2 pins s σ H _ I hq) fun us0 s1 ⟨zs, H1, I1, r1, q1⟩ => ?_) hs hpl))
  obtain ⟨a, b, us, vs, ex, hqx, hqy, q⟩ := q1
  subst ex
  cases r1 with
  | cons r rr =>
    cases rr with
    | cons r' rr =>
      cases rr
      cases r
      cases r'
      obtain ⟨its, rv, p1, hz1⟩ := I1.list hqx
      obtain ⟨its2, rv2, q2, hz2⟩ := I1.list hqy
      have pl1 := p1.isList
      have pl2 := q2.isList
      have lt1 : a < s1.heap.objs.size := let ⟨_, e, _⟩ := pl1; Heap.lt_size e
      have lt2 : b < s1.heap.objs.size := let ⟨_, e, _⟩ := pl2; Heap.lt_size e
      have len1 := rv.length
      have len2 := rv2.length
      refine call_zip_2 pl1 pl2 fun h1 hz hTI hTO g1 g2 hsz hk => ?_
      refine Calls.spliced_nil ?_
      refine zl_call (s := { s1 with heap := h1 }) (xs := its.toArray) (ys := its2.toArray) (I1.ok.hd hc) (PySem.W.ktu_apart s1.heap.objs.size a b lt1 lt2) hz hTI ⟨_, _, hTO⟩ g1 g2 (pl1.at fun o e => hk _ o e) (pl2.at fun o e => hk _ o e) (by simp; omega) fun h' tk acc c as hk' hS hl hG hacc => ?_
      have hS' : h'.get? h1.objs.size = _ := hS
      have hge : s1.heap.objs.size ≤ h1.objs.size := by rw [hsz]; exact Nat.le_add_right _ _
      have hkk : ∀ b o, s1.heap.get? b = some o → h'.get? b = some o := fun b o e => by
        have lt := Heap.lt_size e
        exact hk' b o (Nat.ne_of_lt (Nat.lt_of_lt_of_le lt (Nat.le_add_right _ _))) (Nat.ne_of_lt (Nat.lt_of_lt_of_le lt (Nat.le_add_right _ _))) (Nat.ne_of_lt lt) (Nat.ne_of_lt (Nat.lt_of_lt_of_le lt (Nat.le_add_right _ _))) (hk b o e)
      have el : as.length = (us.zip vs).length := by rw [hl, List.length_zip]; simp; omega
      obtain ⟨H', k1, k2, k3, k5, k6, J⟩ := pairs_laid (tk := tk) I1 hge rv rv2 (by rw [hl]; simp; omega) hkk hS' el hG hacc
      exact ⟨.ref _, H', J, rfl, q H' _ as k1 k2 k3 k5 k6⟩
end
section
open PySem.Spec PyProof.Rows L2
variable {X : Cx} {W : WX} {K : PySem.W.Frag} {F G0 H H' : Hp} {cs : Cs}
theorem Sta.ext (s : Sta K F G0 cs H) (e : Ex H H') : Sta K F G0 cs H' ∧ Ex (pur F cs H) (pur F cs H') := by
  have g : Ex (pur F cs H) (pur F cs H') := fun b u q => by
    obtain ⟨e1, e2, e3⟩ := pur_of q
    rw [pur_at e2 e3]
    exact e b u e1
  refine ⟨⟨s.fr.trans e, s.gr.trans g, s.nd, s.ap, fun a m hm => ?_, s.ft⟩, g⟩
  obtain ⟨o, ho, r⟩ := s.ow a m hm
  exact ⟨o, e _ _ ho, r.mono g⟩
theorem rep_pairs {G : Hp} : ∀ {ts : List Addr} {us vs : List V} {ds es : List D}, Paired (fun (t : Addr) (q : V × V) => G t = some (.tup [q.1, q.2])) ts (us.zip vs) → RepL K G us ds → RepL K G vs es → RepL K G (ts.map V.ref) (List.zipWith (fun d e => D.tup [d, e]) ds es)
  | _, _, _, _, _, h, .nil, _ => by
    cases h
    exact .nil
  | _, _, _, _, _, h, .cons _ _, .nil => by
    cases h
    exact .nil
  | _, _, _, _, _, h, .cons a b, .cons c d => by
    cases h with
    | cons h t => exact .cons (.tup (SqT.of h) (.cons a (.cons c .nil))) (rep_pairs t b d)
theorem paired_imp {α β : Type} {F F' : α → β → Prop} {as : List α} (i : ∀ a ∈ as, ∀ b, F a b → F' a b) : ∀ {as' : List α} {bs : List β}, (∀ a ∈ as', a ∈ as) → Paired F as' bs → Paired F' as' bs
  | _, _, _, .nil => .nil
  | _, _, m, .cons h t => .cons (i _ (m _ List.mem_cons_self) _ h) (paired_imp i (fun a ha => m a (List.mem_cons_of_mem _ ha)) t)
/-- list(zip(xs, ys)) -/
def wLstZ (w : WA) : DL.WE := fun ρ cs P Z => w ρ cs (fun ds cs1 => ∃ xs ys, ds = [.lst xs, .lst ys] ∧ P (.lst (List.zipWith (fun d e => D.tup [d, e]) xs ys)) cs1) Z
theorem d_listZ {w : WA} {e e2 : Expr} {p p2 pos pos2 : Pos} (hc : X.calm = true) (hg : Gl X "list") (hm : X.mg "list" = none) (hg2 : Gl X "zip") (hm2 : X.mg "zip" = none) (ha : DA X W [e, e2] w)
    (hs : starEach [e, e2] X.env = (false, eval e X.env) :: starEach [e2] X.env := by rfl) (hpl : (backTo pos2 (starEach [e2] X.env)).any (·.1) = false := by rfl)
    (hs2 : starEach [.Call (.Name "zip" p2) [e, e2] [] pos2] X.env = (false, eval (.Call (.Name "zip" p2) [e, e2] [] pos2) X.env) :: starEach [] X.env := by rfl) :
    DE X W (.Call (.Name "list" p) [.Call (.Name "zip" p2) [e, e2] [] pos2] [] pos) (wLstZ w) :=
  PE.imp (pe_listZip hc hg hm hg2 hm2 ha hs hpl hs2) fun σ H Q hq => by
    obtain ⟨F, cs, ρ, P, Z, s, re, hw, pe, px⟩ := hq
    refine ⟨F, cs, ρ, _, Z, s, re, hw, fun H1 cs1 zs ds s1 r1 l1 h1 => ?_, px⟩
    obtain ⟨xs, ys, rfl, h⟩ := h1
    cases r1 with
    | cons r1 r2 =>
      cases r2 with
      | cons r2 r3 =>
        cases r3
        cases r1 with
        | lst a1 b1 =>
        cases r2 with
        | lst a2 b2 =>
        refine ⟨_, _, _, _, rfl, ex_l pur_le a1, ex_l pur_le a2, fun H' q ts k1 k2 k3 k5 k6 => ?_⟩
        obtain ⟨s2, g⟩ := s1.ext k1
        obtain ⟨n1, n2⟩ := s1.notin k2
        have eq1 : pur F cs1 H' q = some (.lst (ts.map V.ref)) := by rw [pur_at n1 n2]; exact k5
        have k6' : Paired (fun (t : Addr) (z : V × V) => pur F cs1 H' t = some (.tup [z.1, z.2])) ts _ := paired_imp (as := ts) (fun t ht z hz => by
          obtain ⟨m1, m2⟩ := s1.notin (k3 t ht)
          rw [pur_at m1 m2]; exact hz) (fun _ h => h) k6
        exact pe _ _ _ _ s2 (.lst (SqL.of eq1) (rep_pairs k6' (b1.mono g) (b2.mono g))) h
theorem r_lstZ {w : WA} {ρ : DL.Env} {P : DP} {Z : XZ} (h : w ρ cs (fun ds cs1 => ∃ xs ys, ds = [.lst xs, .lst ys] ∧ P (.lst (List.zipWith (fun d e => D.tup [d, e]) xs ys)) cs1) Z) : wLstZ w ρ cs P Z := h
/-- dict(pairs) -/
def oDictP : DOn := fun ds cs P => ∃ kvs : List (Key × D), ds = [.lst (kvs.map fun kv => .tup [kD kv.1, kv.2])] ∧ ∀ p, p ∉ adr cs → P (.opq (.ref p)) ((p, .dic (mergeD [] kvs)) :: cs)
theorem rep_kD {G : Hp} {v : V} {k : Key} (r : Rep K G v (kD k)) : v = kV k := by
  cases k <;> cases r <;> rfl
theorem rep_dictP {G : Hp} : ∀ {vs : List V} {kvs : List (Key × D)}, RepL K G vs (kvs.map fun kv => .tup [kD kv.1, kv.2]) → ∃ (ps : List Addr) (xs : List (Key × V)), vs = ps.map V.ref ∧ Paired (fun p kv => SqT K G p [kV kv.1, kv.2]) ps xs ∧ RG K G xs kvs
  | _, [], .nil => ⟨[], [], rfl, .nil, .nil⟩
  | _, (k, d) :: kvs, .cons r t => by
    obtain ⟨ps, xs, rfl, h1, h2⟩ := rep_dictP t
    cases r with
    | tup a b =>
      cases b with
      | cons b1 b2 =>
        cases b2 with
        | cons b2 b3 =>
          cases b3
          rw [rep_kD b1] at a
          exact ⟨_ :: ps, (k, _) :: xs, rfl, .cons a h1, .cons b2 h2⟩
theorem adq_dictP : AdqN K (fun xs H Q => ∃ (a : Addr) (ps : List Addr) (kvs : List (Key × V)), xs = [.ref a] ∧ SqL K H a (ps.map V.ref) ∧ Paired (fun p kv => SqT K H p [kV kv.1, kv.2]) ps kvs ∧ ∀ p, H p = none → Q (.ref p) (upd H p (.dK (mergeK [] kvs)))) oDictP := fun F cs H xs ds P Q s r ho pe => by
  obtain ⟨kvs, rfl, h⟩ := ho
  cases r with
  | cons r1 r2 =>
    cases r2
    cases r1 with
    | lst a b =>
      obtain ⟨ps, us, rfl, h1, h2⟩ := rep_dictP b
      refine ⟨_, ps, us, rfl, ex_l pur_le a, paired_imp (as := ps) (fun t _ z hz => ex_t pur_le hz) (fun _ h => h) h1, fun p hp => ?_⟩
      have s2 := s.newM (m := .dic (mergeD [] kvs)) (o := .dK (mergeK [] us)) hp (RG.merge h2 .nil).rk
      exact pe _ _ _ _ s2 (.opq _) (h p (s.notin hp).2)
def dicZ (ns : List Str) (bs : List D) : List (Key × D) := (ns.zip bs).map fun p => (Sum.inr p.1, p.2)
theorem zip_dicZ : ∀ (ns : List Str) (bs : List D), List.zipWith (fun d e => D.tup [d, e]) (ns.map D.str) bs = (dicZ ns bs).map fun kv => D.tup [kD kv.1, kv.2]
  | [], _ => by simp [dicZ]
  | _ :: _, [] => by simp [dicZ]
  | n :: ns, b :: bs => by
    have ih := zip_dicZ ns bs
    simp only [List.map_cons, List.zipWith_cons_cons, dicZ, List.zip_cons_cons, ih]
    rfl
theorem dicZ_keys : ∀ {ns : List Str} {bs : List D}, ns.length = bs.length → (dicZ ns bs).map (·.1) = ns.map Sum.inr
  | [], [], _ => rfl
  | n :: ns, b :: bs, h => by
    have ih := dicZ_keys (ns := ns) (bs := bs) (Nat.succ.inj h)
    show Sum.inr n :: (dicZ ns bs).map (·.1) = Sum.inr n :: ns.map Sum.inr
    rw [ih]
theorem mergeD_app : ∀ (more kvs : List (Key × D)), ((kvs ++ more).map (·.1)).Nodup → mergeD kvs more = kvs ++ more
  | [], kvs, _ => by simp [mergeD]
  | (k, v) :: r, kvs, h => by
    have hno : ∀ q ∈ kvs, q.1 ≠ k := fun q hq e => by
      rw [List.map_append, List.nodup_append] at h
      exact h.2.2 q.1 (List.mem_map.mpr ⟨q, hq, rfl⟩) k (by simp) e
    show mergeD (putD kvs k v) r = _
    rw [putD_new v (look_none_of hno)]
    have e := mergeD_app r (kvs ++ [(k, v)]) (by simpa using h)
    rw [e]; simp
theorem r_dictN {ns : List Str} {bs : List D} {P : DP} (nd : ns.Nodup) (hl : ns.length = bs.length) (h : ∀ p, p ∉ adr cs → P (.opq (.ref p)) ((p, .dic (dicZ ns bs)) :: cs)) : oDictP [.lst (List.zipWith (fun d e => D.tup [d, e]) (ns.map D.str) bs)] cs P := by
  refine ⟨dicZ ns bs, by rw [zip_dicZ], fun p hp => ?_⟩
  rw [mergeD_app (dicZ ns bs) [] (by
    rw [List.nil_append, dicZ_keys hl]
    exact List.Pairwise.map _ (fun a b hn e => hn (Sum.inr.inj e)) nd), List.nil_append]
  exact h p hp
end
end DL
namespace DL
open PySem PySem.Spec PyProof.Rows L2
theorem lk_mem {κ α : Type} [DecidableEq κ] : ∀ {kvs : List (κ × α)} {k : κ} {v : α}, (kvs.map (·.1)).Nodup → (k, v) ∈ kvs → lk kvs k = some v
  | q :: r, k, v, nd, h => by
    rw [List.map_cons, List.nodup_cons] at nd
    rcases List.mem_cons.mp h with e | e
    · subst e; exact look_pos rfl
    · rw [look_neg (fun z => nd.1 (List.mem_map.mpr ⟨(k, v), e, z.symm⟩)), lk_mem nd.2 e]
theorem dicZ_bx : ∀ (ns : List Str) (bs : List Bx), dicZ ns (bs.map Bx.d) = (ns.zip bs).map fun q => ((Sum.inr q.1 : Key), q.2.d)
  | [], _ => rfl
  | _ :: _, [] => rfl
  | n :: ns, b :: bs => by
    have e := dicZ_bx ns bs
    simp only [dicZ, List.map_cons, List.zip_cons_cons] at e ⊢
    rw [e]
end DL
namespace DL
open PySem PySem.Spec PyProof.Rows L2
section
variable {α : Type} [DecidableEq α]
/-- a way from a to b behind a -/
def Wk (N : α → List α) : α → List α → α → Prop
  | a, [], b => a = b
  | a, x :: r, b => x ∈ N a ∧ Wk N x r b
variable {N : α → List α}
theorem Wk.app : ∀ {a b c : α} {r s : List α}, Wk N a r b → Wk N b s c → Wk N a (r ++ s) c
  | _, _, _, [], _, h, k => by cases h; exact k
  | _, _, _, x :: r, s, ⟨h1, h2⟩, k => ⟨h1, h2.app k⟩
theorem Wk.snoc {a b c : α} {r : List α} (h : Wk N a r b) (k : c ∈ N b) : Wk N a (r ++ [c]) c := h.app ⟨k, rfl⟩
/-- the way back -/
theorem Wk.back (sy : ∀ x y, y ∈ N x → x ∈ N y) : ∀ {a b : α} {r : List α}, Wk N a r b → ∃ s, s.length = r.length ∧ Wk N b s a
  | _, _, [], h => ⟨[], rfl, h.symm⟩
  | a, b, x :: r, ⟨h1, h2⟩ => by
    obtain ⟨s, e, w⟩ := h2.back sy
    exact ⟨s ++ [a], by rw [List.length_append, e]; rfl, w.snoc (sy _ _ h1)⟩
/-- k is the least length of a way -/
structure Dst (N : α → List α) (a b : α) (k : Nat) : Prop where
  way : ∃ r, r.length = k ∧ Wk N a r b
  min : ∀ r, Wk N a r b → k ≤ r.length
theorem Dst.uniq {a b : α} {k l : Nat} (h : Dst N a b k) (g : Dst N a b l) : k = l := by
  obtain ⟨r, e1, w1⟩ := h.way
  obtain ⟨s, e2, w2⟩ := g.way
  have := h.min s w2
  have := g.min r w1
  omega
theorem Dst.symm (sy : ∀ x y, y ∈ N x → x ∈ N y) {a b : α} {k : Nat} (h : Dst N a b k) : Dst N b a k := by
  obtain ⟨r, e1, w1⟩ := h.way
  obtain ⟨s, e, w⟩ := w1.back sy
  refine ⟨⟨s, by omega, w⟩, fun t wt => ?_⟩
  obtain ⟨u, eu, wu⟩ := wt.back sy
  have := h.min u wu
  omega
/-- the widening: st what has steps, q what waits -/
structure Bfs (N : α → List α) (t : α) (st : List (α × Nat)) (q : List α) : Prop where
  nd : (st.map (·.1)).Nodup
  qn : q.Nodup
  t0 : (t, 0) ∈ st
  way : ∀ v k, (v, k) ∈ st → ∃ r, r.length = k ∧ Wk N v r t
  wait : ∀ v ∈ q, v ∈ st.map (·.1)
  done : ∀ v k, (v, k) ∈ st → v ∉ q → ∀ y ∈ N v, ∃ l, (y, l) ∈ st ∧ l ≤ k + 1
  rise : q.Pairwise fun a b => ∀ k l, (a, k) ∈ st → (b, l) ∈ st → k ≤ l
  top : ∀ a r, q = a :: r → ∀ k, (a, k) ∈ st → ∀ v l, (v, l) ∈ st → l ≤ k + 1
theorem uniq_of_nd {st : List (α × Nat)} (nd : (st.map (·.1)).Nodup) {v : α} {k l : Nat} (h : (v, k) ∈ st) (g : (v, l) ∈ st) : k = l := by
  induction st with
  | nil => cases h
  | cons p st ih =>
    rw [List.map_cons, List.nodup_cons] at nd
    rcases List.mem_cons.mp h with e | e <;> rcases List.mem_cons.mp g with e' | e'
    · rw [← e] at e'; cases e'; rfl
    · exact absurd (List.mem_map.mpr ⟨_, e', by rw [← e]⟩) nd.1
    · exact absurd (List.mem_map.mpr ⟨_, e, by rw [← e']⟩) nd.1
    · exact ih nd.2 e e'
theorem Bfs.start (t : α) : Bfs N t [(t, 0)] [t] := by
  refine ⟨by simp, by simp, by simp, fun v k h => ?_, fun v h => by simpa using h, fun v k h hn => ?_, by simp, fun a r e k h v l g => ?_⟩
  · simp at h; obtain ⟨rfl, rfl⟩ := h; exact ⟨[], rfl, rfl⟩
  · simp at h; obtain ⟨rfl, rfl⟩ := h; simp at hn
  · simp at g h; omega
/-- a turn: the first that waits tells its neighbours that are new -/
theorem Bfs.turn {t a : α} {st : List (α × Nat)} {r : List α} {k : Nat} (h : Bfs N t st (a :: r)) (ha : (a, k) ∈ st) (nn : (N a).Nodup) (sy : ∀ x y, y ∈ N x → x ∈ N y) :
    Bfs N t (st ++ ((N a).filter fun y => decide (y ∉ st.map (·.1))).map fun y => (y, k + 1)) (r ++ (N a).filter fun y => decide (y ∉ st.map (·.1))) := by
  have hnew : ∀ y ∈ (N a).filter (fun y => decide (y ∉ st.map (·.1))), y ∈ N a ∧ y ∉ st.map (·.1) := fun y hy => by
    have := List.mem_filter.mp hy
    exact ⟨this.1, of_decide_eq_true this.2⟩
  generalize hL : (N a).filter (fun y => decide (y ∉ st.map (·.1))) = L at hnew ⊢
  have hall : ∀ y ∈ N a, y ∈ st.map (·.1) ∨ y ∈ L := fun y hy => by
    by_cases e : y ∈ st.map (·.1)
    · exact .inl e
    · exact .inr (by rw [← hL]; exact List.mem_filter.mpr ⟨hy, decide_eq_true e⟩)
  have nL : L.Nodup := by rw [← hL]; exact nn.filter _
  have em : ∀ v l, (v, l) ∈ st ++ L.map (fun y => (y, k + 1)) ↔ (v, l) ∈ st ∨ (v ∈ L ∧ l = k + 1) := fun v l => by
    rw [List.mem_append, List.mem_map]
    constructor
    · rintro (h | ⟨y, hy, e⟩)
      · exact .inl h
      · cases e; exact .inr ⟨hy, rfl⟩
    · rintro (h | ⟨hy, e⟩)
      · exact .inl h
      · exact .inr ⟨v, hy, by rw [e]⟩
  have en : (st ++ L.map (fun y => (y, k + 1))).map (·.1) = st.map (·.1) ++ L := by
    rw [List.map_append, List.map_map]
    congr 1
    rw [show ((fun x : α × Nat => x.1) ∘ fun y => (y, k + 1)) = id from rfl, List.map_id]
  have nr : a ∉ r ∧ r.Nodup := List.nodup_cons.mp h.qn
  have old : ∀ v l, (v, l) ∈ st → v ∉ L := fun v l hv hl => (hnew v hl).2 (List.mem_map.mpr ⟨_, hv, rfl⟩)
  refine ⟨?_, ?_, ?_, ?_, ?_, ?_, ?_, ?_⟩
  · rw [en]
    exact List.nodup_append.mpr ⟨h.nd, nL, fun x hx y hy e => (hnew y hy).2 (e ▸ hx)⟩
  · exact List.nodup_append.mpr ⟨nr.2, nL, fun x hx y hy e => (hnew y hy).2 (e ▸ h.wait x (List.mem_cons_of_mem _ hx))⟩
  · exact (em _ _).mpr (.inl h.t0)
  · intro v l hv
    have hv0 := (em _ _).mp hv
    clear hv
    rcases hv0 with hv | ⟨hv, rfl⟩
    · exact h.way v l hv
    · obtain ⟨s, e, w⟩ := h.way a k ha
      exact ⟨a :: s, by rw [List.length_cons, e], sy _ _ (hnew v hv).1, w⟩
  · intro v hv
    rw [en]
    rcases List.mem_append.mp hv with hv | hv
    · exact List.mem_append.mpr (.inl (h.wait v (List.mem_cons_of_mem _ hv)))
    · exact List.mem_append.mpr (.inr hv)
  · intro v l hv hn y hy
    have hv0 := (em _ _).mp hv
    clear hv
    rcases hv0 with hv | ⟨hv, rfl⟩
    · by_cases e : v = a
      · subst e
        have el : l = k := uniq_of_nd h.nd hv ha
        subst el
        rcases hall y hy with z | z
        · obtain ⟨⟨y', m⟩, hm, ey⟩ := List.mem_map.mp z
          have ey' : y' = y := ey
          subst ey'
          exact ⟨m, (em _ _).mpr (.inl hm), h.top v r rfl l hv y' m hm⟩
        · exact ⟨l + 1, (em _ _).mpr (.inr ⟨z, rfl⟩), Nat.le_refl _⟩
      · have hn' : v ∉ a :: r := fun z => by
          rcases List.mem_cons.mp z with z | z
          · exact e z
          · exact hn (List.mem_append.mpr (.inl z))
        obtain ⟨m, hm, hl⟩ := h.done v l hv hn' y hy
        exact ⟨m, (em _ _).mpr (.inl hm), hl⟩
    · exact absurd (List.mem_append.mpr (.inr hv)) hn
  · have pr := List.pairwise_cons.mp h.rise
    refine List.pairwise_append.mpr ⟨?_, ?_, ?_⟩
    · refine pr.2.imp_of_mem fun {x y} hx hy hxy m n hm hn => ?_
      have hm0 := (em _ _).mp hm
      clear hm
      rcases hm0 with hm | ⟨hm, rfl⟩
      · have hn0 := (em _ _).mp hn
        clear hn
        rcases hn0 with hn | ⟨hn, rfl⟩
        · exact hxy m n hm hn
        · exact h.top a r rfl k ha x m hm
      · exact absurd (h.wait x (List.mem_cons_of_mem _ hx)) (hnew x hm).2
    · refine nL.imp_of_mem fun {x y} hx hy _ m n hm hn => ?_
      have hm0 := (em _ _).mp hm
      clear hm
      rcases hm0 with hm | ⟨hm, rfl⟩
      · exact absurd hx (old x m hm)
      · have hn0 := (em _ _).mp hn
        clear hn
        rcases hn0 with hn | ⟨hn, rfl⟩
        · exact absurd hy (old y n hn)
        · exact Nat.le_refl _
    · intro x hx y hy m n hm hn
      have hn0 := (em _ _).mp hn
      clear hn
      rcases hn0 with hn | ⟨_, rfl⟩
      · exact absurd hy (old y n hn)
      · have hm0 := (em _ _).mp hm
        clear hm
        rcases hm0 with hm | ⟨hm, rfl⟩
        · exact h.top a r rfl k ha x m hm
        · exact Nat.le_refl _
  · intro x s e m hm v l hv
    have hkm : k ≤ m := by
      have hm0 := (em _ _).mp hm
      clear hm
      rcases hm0 with hm | ⟨hm, rfl⟩
      · have hx : x ∈ r := by
          have : x ∈ r ++ L := by rw [e]; exact List.mem_cons_self ..
          rcases List.mem_append.mp this with z | z
          · exact z
          · exact absurd z (old x m hm)
        exact (List.pairwise_cons.mp h.rise).1 x hx k m ha hm
      · omega
    have hv0 := (em _ _).mp hv
    clear hv
    rcases hv0 with hv | ⟨hv, rfl⟩
    · have := h.top a r rfl k ha v l hv
      omega
    · omega
section
variable (le : α → α → Bool)
def leL : List α → List α → Bool
  | [], _ => true
  | _ :: _, [] => false
  | x :: xs, y :: ys => if x = y then leL xs ys else le x y
end
structure Ord (le : α → α → Bool) : Prop where
  rf : ∀ x, le x x = true
  tr : ∀ x y z, le x y = true → le y z = true → le x z = true
  an : ∀ x y, le x y = true → le y x = true → x = y
  tt : ∀ x y, (le x y || le y x) = true
variable {le : α → α → Bool}
theorem leL_anti (o : Ord le) : ∀ {l m : List α}, leL le l m = true → leL le m l = true → l = m
  | [], [], _, _ => rfl
  | [], _ :: _, _, h => by cases h
  | _ :: _, [], h, _ => by cases h
  | x :: l, y :: m, h, g => by
    unfold leL at h g
    by_cases e : x = y
    · subst e
      rw [if_pos rfl] at h g
      rw [leL_anti o h g]
    · rw [if_neg e] at h
      rw [if_neg (Ne.symm e)] at g
      exact absurd (o.an _ _ h g) e
/-- the first of the shortest ways -/
structure FstW (le : α → α → Bool) (N : α → List α) (a b : α) (r : List α) : Prop where
  w : Wk N a r b
  mn : ∀ s, Wk N a s b → r.length ≤ s.length
  fs : ∀ s, Wk N a s b → s.length = r.length → leL le r s = true
theorem FstW.uniq (o : Ord le) {a b : α} {r s : List α} (h : FstW le N a b r) (g : FstW le N a b s) : r = s := by
  have e : r.length = s.length := Nat.le_antisymm (h.mn s g.w) (g.mn r h.w)
  exact leL_anti o (h.fs s g.w e.symm) (g.fs r h.w e)
theorem FstW.nil (a : α) : FstW le N a a [] := ⟨rfl, fun _ _ => Nat.zero_le _, fun s _ _ => by unfold leL; rfl⟩
/-- a first way meets nothing twice -/
theorem Wk.nd_of {b : α} : ∀ {a : α} {r : List α}, Wk N a r b → (∀ s, Wk N a s b → r.length ≤ s.length) → (a :: r).Nodup := by
    intro a r
    induction r generalizing a with
    | nil => intro _ _; simp
    | cons x r ih =>
      intro w m
      have hm : ∀ s, Wk N x s b → r.length ≤ s.length := fun s ws => by
        have := m (x :: s) ⟨w.1, ws⟩
        simpa using this
      refine List.nodup_cons.mpr ⟨fun ha => ?_, ih w.2 hm⟩
      obtain ⟨p, q, e⟩ := List.append_of_mem ha
      have tail : ∀ {x : α} {p r q : List α}, x :: r = p ++ a :: q → Wk N x r b → Wk N a q b := by
        intro x p
        induction p generalizing x with
        | nil => intro r q e w3; injection e with e1 e2; rw [← e1, ← e2]; exact w3
        | cons y p ihp =>
          intro r q e w3
          injection e with e1 e2
          rw [e2] at w3
          cases p with
          | nil => exact w3.2
          | cons z p => exact ihp rfl w3.2
      have wq := tail e w.2
      have hq := m q wq
      have : (x :: r).length = (p ++ a :: q).length := by rw [e]
      simp at this hq
      omega
theorem FstW.nd {a b : α} {r : List α} (h : FstW le N a b r) : (a :: r).Nodup := Wk.nd_of h.w h.mn
theorem Wk.mem : ∀ {a b : α} {r : List α}, Wk N a r b → ∀ v ∈ r, ∃ u, v ∈ N u
  | _, _, _ :: _, ⟨h1, h2⟩, v, hv => by
    rcases List.mem_cons.mp hv with e | e
    · exact ⟨_, e ▸ h1⟩
    · exact h2.mem v e
end
abbrev NB := List (Str × Bx)
def dicB (nb : NB) : List (Key × D) := nb.map fun q => (Sum.inr q.1, q.2.d)
structure NbOk (nb : NB) : Prop where
  nd : (nb.map (·.1)).Nodup
  len : nb.length < 60
  sz : ∀ q ∈ nb, q.2.Sz 900
  pos : ∀ q ∈ nb, q.2.Pos
def bxOf (nb : NB) (x : Str) : Bx := ((nb.find? fun q => decide (q.1 = x)).map (·.2)).getD ⟨0, 0, 0, 0⟩
theorem dicB_keys (nb : NB) : (dicB nb).map (·.1) = (nb.map (·.1)).map Sum.inr := by unfold dicB; rw [List.map_map, List.map_map]; rfl
theorem dicB_kd (nb : NB) : (dicB nb).map (fun p => kD p.1) = (nb.map (·.1)).map D.str := by unfold dicB; rw [List.map_map, List.map_map]; rfl
theorem dicZ_B (ns : List Str) (bs : List Bx) : dicZ ns (bs.map Bx.d) = dicB (ns.zip bs) := dicZ_bx ns bs
theorem dicB_nd {nb : NB} (nd : (nb.map (·.1)).Nodup) : ((dicB nb).map (·.1)).Nodup := by
  rw [dicB_keys]
  exact List.Pairwise.map _ (fun a b hn e => hn (Sum.inr.inj e)) nd
theorem lk_dicB {nb : NB} (nd : (nb.map (·.1)).Nodup) {x : Str} {b : Bx} (h : (x, b) ∈ nb) : lk (dicB nb) (.inr x) = some b.d := lk_mem (dicB_nd nd) (List.mem_map.mpr ⟨(x, b), h, rfl⟩)
theorem bxOf_mem {nb : NB} (nd : (nb.map (·.1)).Nodup) {x : Str} {b : Bx} (h : (x, b) ∈ nb) : bxOf nb x = b := by
  unfold bxOf
  induction nb with
  | nil => cases h
  | cons q r ih =>
    rw [List.map_cons, List.nodup_cons] at nd
    rcases List.mem_cons.mp h with e | e
    · subst e
      rw [List.find?_cons_of_pos (by simp)]; rfl
    · rw [List.find?_cons_of_neg (by
        simp only [decide_eq_true_eq]
        intro z
        exact nd.1 (z ▸ List.mem_map.mpr ⟨(x, b), e, rfl⟩))]
      exact ih nd.2 e
end DL
namespace DL
open PySem PySem.Spec PyProof.Rows L2
section
variable {X : Cx} {W : WX} {K : PySem.W.Frag} {σ : L2.St} {H : Hp}
variable {i : Nat} {y : Str} {py pos spos : Pos} {kx vx tg iter : Expr} {ifs : List Expr} {scope : Scope} {own : List (Str × Nat)} {wi : WI} {g : TG} {gd : WG} {wt : WT} {wk wv : DL.WE}
/-- behind a statement the slot's dict is data -/
def sLockA (i : Nat) (u : WS) : WS := fun f ρ cs => u { f with nx := fun ρ' cs' => ∃ p kvs, ρ'[i]? = some (some (.opq (.ref p))) ∧ look p cs' = some (.dic kvs) ∧ f.nx (ρ'.set i (some (.dic kvs))) (del p cs') } ρ cs
theorem q_lockA {i : Nat} {ρ : DL.Env} {cs : Cs} {u : WS} {nx bk ct : DL.Env → Cs → Prop} {rt : D → Cs → Prop} {ex : Exn → DL.Env → Cs → Prop} (h : u ⟨fun ρ' cs' => ∃ p kvs, ρ'[i]? = some (some (.opq (.ref p))) ∧ look p cs' = some (.dic kvs) ∧ nx (ρ'.set i (some (.dic kvs))) (del p cs'), rt, ex, bk, ct⟩ ρ cs) : sLockA i u ⟨nx, rt, ex, bk, ct⟩ ρ cs := h
end
end DL
namespace DL
open PySem PySem.Spec PyProof.Rows L2
structure Grid where
  m : Nat
  n : Nat → Nat
  Y : Nat → Rat
  X : Nat → Nat → Rat
  x0 : Rat
  x1 : Rat
structure Grid.Ok (G : Grid) : Prop where
  y : ∀ i, i < G.m → G.Y i < G.Y (i + 1)
  x : ∀ i j, i < G.m → j < G.n i → G.X i j < G.X i (j + 1)
  b : ∀ i, i < G.m → G.X i 0 = G.x0
  e : ∀ i, i < G.m → G.X i (G.n i) = G.x1
def Grid.cell (G : Grid) (i j : Nat) : Bx := ⟨G.X i j, G.Y i, G.X i (j + 1) - G.X i j, G.Y (i + 1) - G.Y i⟩
def Grid.cells (G : Grid) : List Bx := (List.range G.m).flatMap fun i => (List.range (G.n i)).map (G.cell i)
theorem rise_lt {f : Nat → Rat} {n : Nat} (h : ∀ i, i < n → f i < f (i + 1)) : ∀ {i j : Nat}, i < j → j ≤ n → f i < f j
  | i, 0, a, _ => absurd a (Nat.not_lt_zero _)
  | i, j + 1, a, b => by
    have h1 := h j (by omega)
    by_cases e : i = j
    · rw [e]; exact h1
    · have h2 := rise_lt h (i := i) (j := j) (by omega) (by omega)
      grind
theorem rise_le {f : Nat → Rat} {n : Nat} (h : ∀ i, i < n → f i < f (i + 1)) {i j : Nat} (a : i ≤ j) (b : j ≤ n) : f i ≤ f j := by
  by_cases e : i = j
  · rw [e]; exact Rat.le_refl
  · exact Rat.le_of_lt (rise_lt h (by omega) b)
theorem cell_end (a b : Rat) : a + (b - a) = b := by grind
def Bx.tr (b : Bx) : Bx := ⟨b.t, b.l, b.h, b.w⟩
def gridOf (b : Bx) (ws zs : List Int) (dn : Bool) : Grid where
  m := zs.length
  n := fun i => (rowAt ws zs i).length
  Y := fun i => if dn then edgeAt b.t b.h (sumsOf ws zs) i else edgeAt b.l b.w (sumsOf ws zs) i
  X := fun i j => if dn then edgeAt b.l b.w (rowAt ws zs i) j else edgeAt b.t b.h (rowAt ws zs i) j
  x0 := if dn then b.l else b.t
  x1 := if dn then b.l + b.w else b.t + b.h
theorem edge_lt {a b : Rat} (hb : 0 < b) {ws : List Int} (h : WOk ws) {i : Nat} (hi : i < ws.length) : edgeAt a b ws i < edgeAt a b ws (i + 1) := by
  have e : ws[i]? = some ws[i] := List.getElem?_eq_getElem hi
  rw [← edge_step a b h e]
  have h1 := h.pos _ (List.mem_of_getElem? e)
  have := Rat.mul_pos hb (divInt_pos' (a := ws[i]) (b := ws.sum) (by omega) h.sum_pos)
  grind
theorem grid_ok {b : Bx} {ws zs : List Int} (hp : b.Pos) (hw : WOk ws) (hz : SzOk zs ws.length) (dn : Bool) : (gridOf b ws zs dn).Ok := by
  have hs := sums_wok hw hz
  have pw := hp.w
  have ph := hp.h
  refine ⟨fun i hi => ?_, fun i j hi hj => ?_, fun i hi => ?_, fun i hi => ?_⟩
  · have hi' : i < (sumsOf ws zs).length := by rw [sums_len]; exact hi
    cases dn
    · exact edge_lt pw hs hi'
    · exact edge_lt ph hs hi'
  · have hr := row_wok hw hz hi
    cases dn
    · exact edge_lt ph hr hj
    · exact edge_lt pw hr hj
  · cases dn
    · exact edge_zero _ _ _
    · exact edge_zero _ _ _
  · have hr := row_wok hw hz hi
    cases dn
    · exact edge_len _ _ hr
    · exact edge_len _ _ hr
theorem laid_cells {b : Bx} {ws zs : List Int} (hw : WOk ws) (hz : SzOk zs ws.length) (dn : Bool) : laidB b ws zs dn = (gridOf b ws zs dn).cells.map fun c => if dn then c else c.tr := by
  have hs := sums_wok hw hz
  unfold laidB Grid.cells
  rw [List.map_flatMap]
  refine flat_congr fun i hi => ?_
  have hi := List.mem_range.mp hi
  have hr := row_wok hw hz hi
  have ei : (sumsOf ws zs)[i]? = some _ := sums_get hi
  unfold laidAt splitB
  rw [List.map_map]
  refine List.map_congr_left fun j hj => ?_
  have hj := List.mem_range.mp hj
  have ej : (rowAt ws zs i)[j]? = some (rowAt ws zs i)[j] := List.getElem?_eq_getElem hj
  cases dn with
  | true =>
    show splitAt_ _ _ false j = (gridOf b ws zs true).cell i j
    rw [splitAt_across ej, splitAt_down ei]
    unfold Grid.cell gridOf
    simp only [if_true]
    congr 1
    · have := edge_step b.l b.w hr ej
      show b.w * _ = _
      rw [← this]; grind
    · have := edge_step b.t b.h hs ei
      rw [← this]; grind
  | false =>
    show splitAt_ _ _ true j = ((gridOf b ws zs false).cell i j).tr
    rw [splitAt_down ej, splitAt_across ei]
    unfold Grid.cell gridOf Bx.tr
    simp only [Bool.false_eq_true, if_false]
    congr 1
    · have := edge_step b.l b.w hs ei
      show b.w * _ = _
      rw [← this]; grind
    · have := edge_step b.t b.h hr ej
      show b.h * _ = _
      rw [← this]; grind
def Dn (N : Nat) (r : Rat) : Prop := ∃ z : Int, r * ((N : Int) : Rat) = (z : Rat)
theorem Dn.add {N : Nat} {r s : Rat} (a : Dn N r) (b : Dn N s) : Dn N (r + s) := by
  obtain ⟨z, hz⟩ := a
  obtain ⟨y, hy⟩ := b
  exact ⟨z + y, by rw [Rat.add_mul, hz, hy, Rat.intCast_add]⟩
theorem Dn.sub {N : Nat} {r s : Rat} (a : Dn N r) (b : Dn N s) : Dn N (r - s) := by
  obtain ⟨z, hz⟩ := a
  obtain ⟨y, hy⟩ := b
  refine ⟨z - y, ?_⟩
  rw [Rat.intCast_sub, ← hz, ← hy]; grind
theorem Dn.zero (N : Nat) : Dn N 0 := ⟨0, by rw [Rat.zero_mul]; rfl⟩
theorem Dn.sum {N : Nat} : ∀ {l : List Rat}, (∀ r ∈ l, Dn N r) → Dn N l.sum
  | [], _ => Dn.zero N
  | r :: l, h => by
    rw [List.sum_cons]
    exact (h r (List.mem_cons_self ..)).add (Dn.sum fun s hs => h s (List.mem_cons_of_mem _ hs))
theorem Dn.mul {N : Nat} {x : Rat} (h : Dn N x) (M : Nat) : Dn (N * M) x := by
  obtain ⟨z, hz⟩ := h
  exact ⟨z * M, by rw [Int.natCast_mul, Rat.intCast_mul, ← Rat.mul_assoc, hz, Rat.intCast_mul]⟩
theorem Dn.den (x : Rat) : Dn x.den x := by
  have e := Rat.num_divInt_den x
  rw [Rat.divInt_eq_div] at e
  have hd : (((x.den : Int)) : Rat) ≠ 0 := fun q => den_ne x (Rat.intCast_eq_zero_iff.mp q)
  have e2 := Rat.div_mul_cancel (a := (x.num : Rat)) hd
  rw [e] at e2
  exact ⟨x.num, e2⟩
theorem Dn.sz {N n : Nat} {r : Rat} (h : Dn N r) (hN : 0 < N) (h1 : N < 2 ^ n) {k : Nat} (h2 : 0 ≤ r) (h3 : r < ((2 ^ k : Nat) : Int)) : Sz (n + k) r := by
  obtain ⟨z, hz⟩ := h
  have hN' : (((N : Int)) : Rat) ≠ 0 := fun q => by have := Rat.intCast_eq_zero_iff.mp q; omega
  have hr : r = Rat.divInt z N := by
    rw [Rat.divInt_eq_div, ← hz, Rat.mul_div_cancel hN']
  have z0 : 0 ≤ z := by
    have : (0 : Rat) ≤ (z : Rat) := by rw [← hz]; exact Rat.mul_nonneg h2 (Rat.intCast_nonneg.mpr (by omega))
    exact Rat.intCast_nonneg.mp this
  have z1 : z < (2 ^ k : Nat) * N := by
    have hp : (0 : Rat) < ((N : Int) : Rat) := Rat.intCast_pos.mpr (by omega)
    have := Rat.mul_lt_mul_of_pos_right h3 hp
    rw [hz, ← Rat.intCast_mul] at this
    exact Rat.intCast_lt_intCast.mp this
  rw [hr]
  refine Sz.divInt (n := n + k) (by omega) ?_ ?_ (Nat.le_refl _)
  · have h4 : (2 ^ k : Nat) * N < 2 ^ (n + k) := by
      rw [Nat.pow_add, Nat.mul_comm (2 ^ n)]
      exact Nat.mul_lt_mul_of_pos_left h1 (Nat.two_pow_pos k)
    have h5 : z < ((2 ^ k * N : Nat) : Int) := by rw [Int.natCast_mul]; exact z1
    omega
  · have : 2 ^ n ≤ 2 ^ (n + k) := Nat.pow_le_pow_right (by decide) (by omega)
    omega
end DL
namespace DL
open PySem PySem.Spec PyProof.Rows L2
section
variable {X : Cx}
def tSetSl (tv to : TE) (tl th : TO) : TS := fun D σ H => tv σ H fun y H1 => to σ H1 fun x H2 => tl σ H2 fun i H3 => th σ H3 fun j H4 => ∃ (l b : Addr) (xs ys : List V) (a c : Int), x = .ref l ∧ y = .ref b ∧ i = some a ∧ j = some c ∧ H4 l = some (.lst xs) ∧ H4 b = some (.lst ys) ∧ l ≠ b ∧
  0 ≤ a ∧ a ≤ c ∧ c ≤ xs.length ∧ xs.length + ys.length ≤ sizeLine ∧ D.nx σ (upd H4 l (.lst (xs.take a.toNat ++ ys ++ xs.drop c.toNat)))
theorem ps_setSl {o v : Expr} {lo hi : Option Expr} {tv to : TE} {tl th : TO} {p2 p1 pos : Pos} (hv : PE X v tv) (ho : PE X o to) (hl : PO X lo tl) (hu : PO X hi th) (hs : swapsWith v (some (.Subscript o (.Slice lo hi none p2) p1)) pos.line X.env = pure false := by rfl) :
    PS X (.Assign [.Subscript o (.Slice lo hi none p2) p1] v pos) (tSetSl tv to tl th) := by
  refine ⟨fun pins s σ H D I h => ?_⟩
  refine wpAny_Assign_Subscript (thn (hv.run pins s σ H _ I h) fun u0 s1 ⟨y, H1, I1, ry, q1⟩ => thn (ho.run pins s1 σ H1 _ I1 q1) fun u1 s2 ⟨x, H2, I2, rx, q2⟩ => ?_) hs
  refine wpAny_Slice (thn (hl.run pins s2 σ H2 _ I2 q2) fun vl s3 ⟨i, H3, I3, pl, q3⟩ => thn (hu.run pins s3 σ H3 _ I3 q3) fun vu s4 ⟨j, H4, I4, pu, q4⟩ => ?_)
  rw [evalPart_none]
  refine wpAny_pure ?_
  obtain ⟨l, b, xs, ys, a, c, rfl, rfl, rfl, rfl, e1, e2, ne, h0, h1, h2, hz, q⟩ := q4
  cases ry
  cases rx
  cases pl with
  | int a' ta =>
  cases pu with
  | int c' tc =>
  have I5 : Inv X pins σ H4 { s4 with heap := s4.heap.push { cls := .type "slice", data := .fields #[.int a ta, .int c tc, .none] } } := I4.kept (t' := s4.toks) fun b ob q => Heap.get?_push_of_some _ q
  exact set_slice I5 e1 e2 ne (Heap.IsSliceOf.new ..) ⟨ta, rfl⟩ ⟨tc, rfl⟩ h0 h1 h2 hz fun s' J => ⟨σ, _, J, q⟩
end
section
variable {X : Cx} {W : WX} {K : PySem.W.Frag}
def sSetSl (wv wo : DL.WE) (wl wh : WO) : WS := fun f ρ cs => wv ρ cs (fun y cs1 => wo ρ cs1 (fun x cs2 => wl ρ cs2 (fun i cs3 => wh ρ cs3 (fun j cs4 => ∃ (p q : Addr) (xs ys : List D) (a c : Int), x = .opq (.ref p) ∧ y = .opq (.ref q) ∧ i = some a ∧ j = some c ∧ look p cs4 = some (.lst xs) ∧ look q cs4 = some (.lst ys) ∧ p ≠ q ∧
  0 ≤ a ∧ a ≤ c ∧ c ≤ xs.length ∧ xs.length + ys.length ≤ 100000 ∧ f.nx ρ (put p (.lst (xs.take a.toNat ++ ys ++ xs.drop c.toNat)) cs4)) (fun x cs1 => f.ex x ρ cs1)) (fun x cs1 => f.ex x ρ cs1)) (fun x cs1 => f.ex x ρ cs1)) (fun x cs1 => f.ex x ρ cs1)
theorem ds_setSl {o v : Expr} {lo hi : Option Expr} {wv wo : DL.WE} {wl wh : WO} {p2 p1 pos : Pos} (hv : DE X W v wv) (ho : DE X W o wo) (hl : DOp X W lo wl) (hu : DOp X W hi wh) (hs : swapsWith v (some (.Subscript o (.Slice lo hi none p2) p1)) pos.line X.env = pure false := by rfl) :
    DS X W (.Assign [.Subscript o (.Slice lo hi none p2) p1] v pos) (sSetSl wv wo wl wh) := PS.imp (ps_setSl hv ho hl hu hs) fun E σ H h => by
  obtain ⟨F, cs, ρ, f, s, re, hw, pe⟩ := h
  refine ⟨F, cs, ρ, _, _, s, re, hw, fun H1 cs1 y dy s1 r1 h1 => ?_, pe.px re⟩
  refine ⟨F, cs1, ρ, _, _, s1.self, re.mono s1.gr, h1, fun H2 cs2 x dx s2 r2 h2 => ?_, (pe.le s1.gr).px (re.mono s1.gr)⟩
  have g2 := s1.gr.trans s2.gr
  refine ⟨F, cs2, ρ, _, _, s2.self, re.mono g2, h2, fun H3 cs3 i s3 h3 => ?_, (pe.le g2).px (re.mono g2)⟩
  have g3 := g2.trans s3.gr
  refine ⟨F, cs3, ρ, _, _, s3.self, re.mono g3, h3, fun H4 cs4 j s4 h4 => ?_, (pe.le g3).px (re.mono g3)⟩
  obtain ⟨p, q, xs, ys, a, c, rfl, rfl, rfl, rfl, l1, l2, ne, a0, a1, a2, hz, h5⟩ := h4
  cases r1
  cases r2
  obtain ⟨vs, e1, m1⟩ := lst_at s4 l1
  obtain ⟨us, e2, m2⟩ := lst_at s4 l2
  have s5 := s4.put l1 (m' := .lst (xs.take a.toNat ++ ys ++ xs.drop c.toNat)) (o' := .lst (vs.take a.toNat ++ us ++ vs.drop c.toNat)) (((m1.take _).append m2).append (m1.drop _))
  refine ⟨p, q, vs, us, a, c, rfl, rfl, rfl, rfl, e1, e2, ne, a0, a1, by rw [m1.length]; exact a2, by rw [m1.length, m2.length]; exact Nat.le_trans hz (by decide), ?_⟩
  have g := g3.trans s4.gr
  exact pe.nx _ _ σ ρ (s5.from_ g) (re.mono (g.trans s5.gr)) h5
/-- [..] * n, a list that will change -/
def wLRepM (w : WA) (wb : DL.WE) : DL.WE := fun ρ cs P Z => w ρ cs (fun ds cs1 => wb ρ cs1 (fun y cs2 => ∃ k : Nat, y = .int (k : Int) ∧ ds.length * k ≤ 100000 ∧ k ≤ 100000 ∧ ∀ q, q ∉ adr cs2 → P (.opq (.ref q)) ((q, .lst (List.replicate k ds).flatten) :: cs2)) Z) Z
theorem d_lrepM {b : Expr} {es : List Expr} {w : WA} {wb : DL.WE} {p1 pos : Pos} (h : DA X W es w) (hb : DE X W b wb) (hn : es.length ≤ 1000 := by decide) : DE X W (.BinOp (.List es p1) .Mult b pos) (wLRepM w wb) :=
  PE.imp (pe_op L2.op_rep (pe_lst h) hb) fun σ H Q hq => by
    obtain ⟨F, cs, ρ, P, Z, s, re, hw, pe, px⟩ := hq
    refine ⟨F, cs, ρ, _, Z, s, re, hw, fun H1 cs1 vs ds s1 r1 l1 h1 => ⟨by rw [r1.length, l1]; exact small_es hn, fun p hp => ?_⟩, px⟩
    obtain ⟨s2, e2⟩ := s1.new (o := .lst vs) hp
    refine ⟨F, cs1, ρ, _, Z, s2.self, re.mono (s1.gr.trans s2.gr), h1, fun H2 cs2 v d s3 r3 h3 => ?_, px.le (s1.gr.trans s2.gr)⟩
    obtain ⟨k, rfl, hk, hk2, h4⟩ := h3
    cases r3
    refine ⟨p, k, vs, rfl, rfl, pur_le _ _ (s3.gr _ _ e2), by omega, by omega, ?_, fun p2 hp2 => ?_⟩
    · rw [r1.length]
      have e : ((k : Int)).toNat = k := by omega
      rw [e]
      exact Nat.le_trans hk (by decide)
    · rw [show ((k : Int)).toNat = k by omega]
      have s4 := s3.newM (m := .lst (List.replicate k ds).flatten) (o := .lst (List.replicate k vs).flatten) hp2 ((r1.mono (s2.gr.trans s3.gr)).rep k)
      exact pe _ _ _ _ (s4.from_ ((s1.gr.trans s2.gr).trans s3.gr)) (.opq _) (h4 p2 (s3.notin hp2).2)
end
section
variable {ρ : DL.Env} {cs : Cs} {P : DP} {Z : XZ} {w : WA} {wb wv wo : DL.WE} {wl wh : WO} {nx bk ct : DL.Env → Cs → Prop} {rt : D → Cs → Prop} {ex : Exn → DL.Env → Cs → Prop}
theorem q_setSl (h : wv ρ cs (fun y cs1 => wo ρ cs1 (fun x cs2 => wl ρ cs2 (fun i cs3 => wh ρ cs3 (fun j cs4 => ∃ (p q : Addr) (xs ys : List D) (a c : Int), x = .opq (.ref p) ∧ y = .opq (.ref q) ∧ i = some a ∧ j = some c ∧ look p cs4 = some (.lst xs) ∧ look q cs4 = some (.lst ys) ∧ p ≠ q ∧
  0 ≤ a ∧ a ≤ c ∧ c ≤ xs.length ∧ xs.length + ys.length ≤ 100000 ∧ nx ρ (put p (.lst (xs.take a.toNat ++ ys ++ xs.drop c.toNat)) cs4)) (fun x cs1 => ex x ρ cs1)) (fun x cs1 => ex x ρ cs1)) (fun x cs1 => ex x ρ cs1)) (fun x cs1 => ex x ρ cs1)) : sSetSl wv wo wl wh ⟨nx, rt, ex, bk, ct⟩ ρ cs := h
theorem r_lrepM (h : w ρ cs (fun ds cs1 => wb ρ cs1 (fun y cs2 => ∃ k : Nat, y = .int (k : Int) ∧ ds.length * k ≤ 100000 ∧ k ≤ 100000 ∧ ∀ q, q ∉ adr cs2 → P (.opq (.ref q)) ((q, .lst (List.replicate k ds).flatten) :: cs2)) Z) Z) : wLRepM w wb ρ cs P Z := h
end
def lnR (r : Rat) (W n : Int) : Int := -(((r.den : Int) * W - 2 * (r.num * n)) / (2 * ((r.den : Int) * W)))
theorem lnR_in {r : Rat} {W n : Int} (hW : 0 < W) : (r.den : Int) * W * (2 * lnR r W n - 1) < 2 * (r.num * n) ∧ 2 * (r.num * n) ≤ (r.den : Int) * W * (2 * lnR r W n + 1) := by
  unfold lnR
  obtain ⟨a, ha⟩ : ∃ a, a = r.num * n := ⟨_, rfl⟩
  obtain ⟨b, hb⟩ : ∃ b, b = (r.den : Int) * W := ⟨_, rfl⟩
  have hb0 : 0 < b := by rw [hb]; exact Int.mul_pos (den_pos r) hW
  rw [← ha, ← hb]
  have e1 := Int.mul_ediv_add_emod (b - 2 * a) (2 * b)
  have e2 := Int.emod_nonneg (b - 2 * a) (show 2 * b ≠ 0 by omega)
  have e3 := Int.emod_lt_of_pos (b - 2 * a) (show 0 < 2 * b by omega)
  generalize (b - 2 * a) / (2 * b) = q at *
  generalize (b - 2 * a) % (2 * b) = m at *
  have h1 : b * (2 * -q - 1) = -(2 * b * q) - b := by grind
  have h2 : b * (2 * -q + 1) = -(2 * b * q) + b := by grind
  rw [h1, h2]
  omega
theorem ln_uniq {a b k l : Int} (hb : 0 < b) (h1 : b * (2 * k - 1) < 2 * a) (h2 : 2 * a ≤ b * (2 * l + 1)) : k ≤ l := by
  refine Int.not_lt.mp fun h => ?_
  have h3 : b * (2 * l + 1) ≤ b * (2 * k - 1) := Int.mul_le_mul_of_nonneg_left (by omega) (by omega)
  omega
theorem lnR_mono {r s : Rat} {W n : Int} (hW : 0 < W) (hn : 0 ≤ n) (h : r ≤ s) : lnR r W n ≤ lnR s W n := by
  refine Int.not_lt.mp fun hlt => ?_
  have h1 := (lnR_in (r := r) (n := n) hW).1
  have h2 := (lnR_in (r := s) (n := n) hW).2
  have h3 := (Rat.le_iff r s).mp h
  generalize lnR r W n = k at *
  generalize lnR s W n = l at *
  have d1 := den_pos r
  have d2 := den_pos s
  generalize (r.den : Int) = b at *
  generalize (s.den : Int) = b' at *
  generalize r.num = a at *
  generalize s.num = a' at *
  have p1 : 0 < b * W := Int.mul_pos d1 hW
  have p2 : 0 < b' * W := Int.mul_pos d2 hW
  have q1 : (b * W * (2 * k - 1)) * (b' * W) < 2 * (a * n) * (b' * W) := Int.mul_lt_mul_of_pos_right h1 p2
  have q2 : 2 * (a' * n) * (b * W) ≤ (b' * W * (2 * l + 1)) * (b * W) := Int.mul_le_mul_of_nonneg_right h2 (Int.le_of_lt p1)
  have q3 : (a * b') * (n * W) ≤ (a' * b) * (n * W) := Int.mul_le_mul_of_nonneg_right h3 (Int.mul_nonneg hn (Int.le_of_lt hW))
  have q4 : (b' * W * (2 * l + 1)) * (b * W) ≤ (b' * W * (2 * k - 1)) * (b * W) := Int.mul_le_mul_of_nonneg_right (Int.mul_le_mul_of_nonneg_left (by omega) (Int.le_of_lt p2)) (Int.le_of_lt p1)
  have e1 : 2 * (a * n) * (b' * W) = 2 * ((a * b') * (n * W)) := by grind
  have e2 : 2 * (a' * n) * (b * W) = 2 * ((a' * b) * (n * W)) := by grind
  have e3 : (b' * W * (2 * k - 1)) * (b * W) = (b * W * (2 * k - 1)) * (b' * W) := by grind
  omega
theorem lnR_zero {W n : Int} (hW : 0 < W) : lnR 0 W n = 0 := by
  have h := lnR_in (r := 0) (n := n) hW
  have e1 : (0 : Rat).num = 0 := rfl
  have e2 : ((0 : Rat).den : Int) = 1 := rfl
  rw [e1, e2, Int.one_mul, Int.zero_mul] at h
  have a1 := ln_uniq (a := 0) (l := 0) hW h.1 (by omega)
  have a2 := ln_uniq (a := 0) (k := 0) hW (by omega) h.2
  omega
theorem lnR_whole {W n : Int} (hW : 0 < W) : lnR (W : Rat) W n = n := by
  have h := lnR_in (r := (W : Rat)) (n := n) hW
  have e1 : ((W : Rat)).num = W := rfl
  have e2 : (((W : Rat)).den : Int) = 1 := rfl
  rw [e1, e2, Int.one_mul] at h
  have a1 := ln_uniq (a := W * n) (l := n) hW h.1 (by rw [show W * (2 * n + 1) = 2 * (W * n) + W by grind]; omega)
  have a2 := ln_uniq (a := W * n) (k := n) hW (by rw [show W * (2 * n - 1) = 2 * (W * n) - W by grind]; omega) h.2
  omega
theorem lnR_bd {r : Rat} {W n : Int} (hW : 0 < W) (hn : 0 ≤ n) (h0 : 0 ≤ r) (h1 : r ≤ (W : Rat)) : 0 ≤ lnR r W n ∧ lnR r W n ≤ n := by
  have a := lnR_mono (n := n) hW hn h0
  have b := lnR_mono (n := n) hW hn h1
  rw [lnR_zero hW] at a
  rw [lnR_whole hW] at b
  exact ⟨a, b⟩
def covS (W H C R : Int) (b : Bx) (r c : Nat) : Bool := (decide (lnR b.l W C ≤ (c : Int)) && decide ((c : Int) < lnR (b.l + b.w) W C)) && (decide (lnR b.t H R ≤ (r : Int)) && decide ((r : Int) < lnR (b.t + b.h) H R))
def cellS (W H C R : Int) (nb : NB) (r c : Nat) : Str := nb.foldl (fun acc q => if covS W H C R q.2 r c = true then q.1 else acc) ""
def rowF (f : Nat → Nat → Str) (C r : Nat) : List Str := (List.range C).map (f r)
theorem cellS_more {W H C R : Int} {nb : NB} {i : Nat} {q : Str × Bx} (h : nb[i]? = some q) (r c : Nat) : cellS W H C R (nb.take (i + 1)) r c = if covS W H C R q.2 r c = true then q.1 else cellS W H C R (nb.take i) r c := by
  unfold cellS
  rw [take_more h, List.foldl_append]; rfl
theorem rowF_len (f : Nat → Nat → Str) (C r : Nat) : (rowF f C r).length = C := by unfold rowF; rw [List.length_map, List.length_range]
theorem paint_row {f : Nat → Nat → Str} {C r a b : Nat} {x : Str} (hab : a ≤ b) (hb : b ≤ C) : (rowF f C r).take a ++ List.replicate (b - a) x ++ (rowF f C r).drop b = rowF (fun r c => if a ≤ c ∧ c < b then x else f r c) C r := by
  refine List.ext_getElem? fun i => ?_
  unfold rowF
  rw [List.getElem?_map]
  by_cases h1 : i < a
  · rw [List.append_assoc, List.getElem?_append_left (by rw [List.length_take, List.length_map, List.length_range]; omega), List.getElem?_take_of_lt h1, List.getElem?_map, List.getElem?_range (by omega)]
    show some _ = some (if a ≤ i ∧ i < b then x else f r i)
    rw [if_neg (by omega)]
  · by_cases h2 : i < b
    · rw [List.append_assoc, List.getElem?_append_right (by rw [List.length_take, List.length_map, List.length_range]; omega), List.length_take, List.length_map, List.length_range, List.getElem?_append_left (by rw [List.length_replicate]; omega), List.getElem?_replicate, if_pos (by omega), List.getElem?_range (by omega)]
      show some _ = some (if a ≤ i ∧ i < b then x else f r i)
      rw [if_pos (by omega)]
    · rw [List.getElem?_append_right (by rw [List.length_append, List.length_take, List.length_map, List.length_range, List.length_replicate]; omega), List.getElem?_drop, List.getElem?_map, List.length_append, List.length_take, List.length_map, List.length_range, List.length_replicate]
      have e : b + (i - (min a C + (b - a))) = i := by omega
      rw [e]
      by_cases h3 : i < C
      · rw [List.getElem?_range h3]
        show some _ = some (if a ≤ i ∧ i < b then x else f r i)
        rw [if_neg (by omega)]
      · rw [List.getElem?_eq_none (by rw [List.length_range]; omega)]; rfl
theorem rowF_congr {f g : Nat → Nat → Str} {C r : Nat} (h : ∀ c, c < C → f r c = g r c) : rowF f C r = rowF g C r := List.map_congr_left fun c hc => h c (List.mem_range.mp hc)
/-- the rows at ps, told at q; what stood ahead (cs) stands -/
structure RowsAt (cs : Cs) (f : Nat → Nat → Str) (R C : Nat) (q : Addr) (ps : List Addr) (cs' : Cs) : Prop where
  out : look q cs' = some (.lst (ps.map fun p => .opq (.ref p)))
  len : ps.length = R
  row : ∀ (r : Nat) (p : Addr), ps[r]? = some p → look p cs' = some (.lst ((rowF f C r).map D.str))
  nd : ps.Nodup
  qn : q ∉ ps
  fr : ∀ a m, look a cs = some m → look a cs' = some m ∧ a ≠ q ∧ a ∉ ps
theorem RowsAt.put {cs cs' : Cs} {f : Nat → Nat → Str} {R C r : Nat} {q p : Addr} {ps : List Addr} (h : RowsAt cs f R C q ps cs') (hp : ps[r]? = some p) {g : Nat → Nat → Str} (hg : ∀ j, j ≠ r → rowF g C j = rowF f C j) : RowsAt cs g R C q ps (put p (.lst ((rowF g C r).map D.str)) cs') := by
  have hm := List.mem_of_getElem? hp
  have hq : q ≠ p := fun e => h.qn (e ▸ hm)
  refine ⟨by rw [look_put_ne hq]; exact h.out, h.len, fun j p' hj => ?_, h.nd, h.qn, fun a m ha => ?_⟩
  · by_cases e : p' = p
    · subst e
      have ej : j = r := by
        obtain ⟨hj1, hj2⟩ := List.getElem?_eq_some_iff.mp hj
        obtain ⟨hr1, hr2⟩ := List.getElem?_eq_some_iff.mp hp
        exact (List.getElem_inj h.nd).mp (hj2.trans hr2.symm)
      subst ej
      exact look_put (h.row j p' hj)
    · rw [look_put_ne e, hg j (fun ej => e (by subst ej; rw [hj] at hp; exact Option.some.inj hp))]
      exact h.row j p' hj
  · obtain ⟨a1, a2, a3⟩ := h.fr a m ha
    have hap : a ≠ p := fun e => a3 (by rw [e]; exact hm)
    exact ⟨by rw [look_put_ne hap]; exact a1, a2, a3⟩
theorem look_in {cs : Cs} {p : Addr} {m : MO} (h : look p cs = some m) : p ∈ adr cs := List.mem_map.mpr ⟨(p, m), look_mem h, rfl⟩
theorem RowsAt.del {cs cs' : Cs} {f : Nat → Nat → Str} {R C : Nat} {q z : Addr} {ps : List Addr} {m : MO} (h : RowsAt cs f R C q ps ((z, m) :: cs')) (hz : z ∉ adr cs') (z1 : z ≠ q) (z2 : z ∉ ps) (z3 : look z cs = none) : RowsAt cs f R C q ps cs' := by
  have ne : ∀ {a : Addr}, a ≠ z → look a ((z, m) :: cs') = look a cs' := fun {a} e => look_cons_ne e
  refine ⟨by rw [← ne (Ne.symm z1)]; exact h.out, h.len, fun r p hp => ?_, h.nd, h.qn, fun a u ha => ?_⟩
  · rw [← ne (fun e => z2 (e ▸ List.mem_of_getElem? hp))]; exact h.row r p hp
  · obtain ⟨a1, a2, a3⟩ := h.fr a u ha
    have : a ≠ z := fun e => by rw [e, z3] at ha; cases ha
    rw [ne this] at a1
    exact ⟨a1, a2, a3⟩
theorem RowsAt.over {cs cs' : Cs} {f : Nat → Nat → Str} {R C : Nat} {q z : Addr} {ps : List Addr} {m : MO} (h : RowsAt cs f R C q ps cs') (hz : z ∉ adr cs') : RowsAt cs f R C q ps ((z, m) :: cs') := by
  have ne : ∀ {a : Addr} {u : MO}, look a cs' = some u → look a ((z, m) :: cs') = some u := fun {a u} e => by rw [look_cons_ne (look_ne e hz)]; exact e
  exact ⟨ne h.out, h.len, fun r p hp => ne (h.row r p hp), h.nd, h.qn, fun a u ha => ⟨ne (h.fr a u ha).1, (h.fr a u ha).2⟩⟩
theorem RowsAt.congr {cs cs' : Cs} {f g : Nat → Nat → Str} {R C : Nat} {q : Addr} {ps : List Addr} (h : RowsAt cs f R C q ps cs') (e : ∀ r c, r < R → c < C → f r c = g r c) : RowsAt cs g R C q ps cs' := by
  refine ⟨h.out, h.len, fun r p hp => ?_, h.nd, h.qn, h.fr⟩
  have hr : r < R := by rw [← h.len]; exact (List.getElem?_eq_some_iff.mp hp).1
  rw [← rowF_congr (f := f) (g := g) fun c hc => e r c hr hc]
  exact h.row r p hp
theorem put_cons_ne {p z : Addr} {m u : MO} {cs : Cs} (h : z ≠ p) : DL.put p m ((z, u) :: cs) = (z, u) :: DL.put p m cs := by
  simp [DL.put, h]
/-- painted from row t on, j rows, columns a to e -/
def pntF (f : Nat → Nat → Str) (x : Str) (t j a e : Nat) : Nat → Nat → Str := fun r c => if (t ≤ r ∧ r < t + j) ∧ a ≤ c ∧ c < e then x else f r c
theorem pnt_row {f : Nat → Nat → Str} {x : Str} {t j a e C : Nat} (hae : a ≤ e) (he : e ≤ C) : (rowF (pntF f x t j a e) C (t + j)).take a ++ List.replicate (e - a) x ++ (rowF (pntF f x t j a e) C (t + j)).drop e = rowF (pntF f x t (j + 1) a e) C (t + j) := by
  rw [paint_row hae he]
  refine rowF_congr fun c _ => ?_
  unfold pntF
  by_cases h : a ≤ c ∧ c < e
  · rw [if_pos h, if_pos ⟨by omega, h⟩]
  · rw [if_neg h, if_neg (fun z => h z.2), if_neg (fun z => h z.2)]
theorem pnt_other {f : Nat → Nat → Str} {x : Str} {t j a e C r : Nat} (h : r ≠ t + j) : rowF (pntF f x t (j + 1) a e) C r = rowF (pntF f x t j a e) C r := by
  refine rowF_congr fun c _ => ?_
  unfold pntF
  by_cases h1 : (t ≤ r ∧ r < t + j) ∧ a ≤ c ∧ c < e
  · rw [if_pos h1, if_pos ⟨⟨h1.1.1, by omega⟩, h1.2⟩]
  · rw [if_neg h1, if_neg (fun z => h1 ⟨⟨z.1.1, by have := z.1.2; omega⟩, z.2⟩)]
theorem strs_cut {l : List Str} {x : Str} {a e : Nat} : (l.map D.str).take a ++ List.replicate (e - a) (D.str x) ++ (l.map D.str).drop e = (l.take a ++ List.replicate (e - a) x ++ l.drop e).map D.str := by
  rw [List.map_append, List.map_append, List.map_take, List.map_drop, List.map_replicate]
/-- boxes that lie in a box from nought -/
def InW (W H : Int) (nb : NB) : Prop := ∀ q ∈ nb, 0 ≤ q.2.l ∧ q.2.l + q.2.w ≤ (W : Rat) ∧ 0 ≤ q.2.t ∧ q.2.t + q.2.h ≤ (H : Rat)
end DL
namespace DL
open PySem PySem.Spec PyProof.Rows L2
theorem cnt_one {α : Type} {p : α → Bool} : ∀ {l : List α} {a b : α}, l.countP p ≤ 1 → a ∈ l → b ∈ l → p a = true → p b = true → a = b
  | q :: l, a, b, h, ha, hb, pa, pb => by
    rw [List.countP_cons] at h
    rcases List.mem_cons.mp ha with e | ha' <;> rcases List.mem_cons.mp hb with e' | hb'
    · rw [e, e']
    · have : 0 < l.countP p := List.countP_pos_iff.mpr ⟨b, hb', pb⟩
      rw [e] at pa; rw [if_pos pa] at h; omega
    · have : 0 < l.countP p := List.countP_pos_iff.mpr ⟨a, ha', pa⟩
      rw [e'] at pb; rw [if_pos pb] at h; omega
    · exact cnt_one (by omega) ha' hb' pa pb
/-- the boxes of rows lie within -/
theorem laid_in {b : Bx} {ws zs : List Int} (hp : b.Pos) (hw : WOk ws) (hz : SzOk zs ws.length) (dn : Bool) {c : Bx} (hc : c ∈ laidB b ws zs dn) : (b.l ≤ c.l ∧ c.l + c.w ≤ b.l + b.w) ∧ (b.t ≤ c.t ∧ c.t + c.h ≤ b.t + b.h) := by
  have ok := grid_ok hp hw hz dn
  have hs := sums_wok hw hz
  rw [laid_cells hw hz dn] at hc
  obtain ⟨g, hg, e⟩ := List.mem_map.mp hc
  obtain ⟨i, hi, hg2⟩ := List.mem_flatMap.mp hg
  obtain ⟨j, hj, e2⟩ := List.mem_map.mp hg2
  have hi := List.mem_range.mp hi
  have hj := List.mem_range.mp hj
  have rx := fun j hj => ok.x i j hi hj
  have x1 := rise_le rx (Nat.zero_le j) (by omega)
  have x2 := rise_le rx (show j + 1 ≤ (gridOf b ws zs dn).n i by omega) (Nat.le_refl _)
  have y1 := rise_le ok.y (Nat.zero_le i) (by omega)
  have y2 := rise_le ok.y (show i + 1 ≤ (gridOf b ws zs dn).m by omega) (Nat.le_refl _)
  rw [ok.b i hi] at x1
  rw [ok.e i hi] at x2
  subst e2
  have hm : (gridOf b ws zs dn).m = (sumsOf ws zs).length := (sums_len ws zs).symm
  rw [hm] at y2
  cases dn with
  | true =>
    have e' : (gridOf b ws zs true).cell i j = c := e
    subst e'
    have y0 : (gridOf b ws zs true).Y 0 = b.t := edge_zero _ _ _
    have y3 : (gridOf b ws zs true).Y (sumsOf ws zs).length = b.t + b.h := edge_len _ _ hs
    rw [y0] at y1
    rw [y3] at y2
    unfold Grid.cell
    dsimp only
    rw [cell_end, cell_end]
    exact ⟨⟨x1, x2⟩, y1, y2⟩
  | false =>
    have e' : ((gridOf b ws zs false).cell i j).tr = c := e
    subst e'
    have y0 : (gridOf b ws zs false).Y 0 = b.l := edge_zero _ _ _
    have y3 : (gridOf b ws zs false).Y (sumsOf ws zs).length = b.l + b.w := edge_len _ _ hs
    rw [y0] at y1
    rw [y3] at y2
    unfold Grid.cell Bx.tr
    dsimp only
    rw [cell_end, cell_end]
    exact ⟨⟨y1, y2⟩, x1, x2⟩
theorem nbOk_laid {ns : List Str} {bx : Bx} {ws zs : List Int} {dn : Bool} (hp : bx.Pos) (hs : bx.Sz 202) (hw : WtOk ws) (hz : SzOk zs ws.length) (hn : NamesOk ns ws.length) : NbOk (ns.zip (laidB bx ws zs dn)) := by
  have hlz : ns.length = (laidB bx ws zs dn).length := by rw [hn.len, laid_len bx dn hz]
  have hm : ∀ q ∈ ns.zip (laidB bx ws zs dn), q.2 ∈ laidB bx ws zs dn := fun q hq => (List.of_mem_zip (a := q.1) (b := q.2) hq).2
  refine ⟨by rw [List.map_fst_zip (by omega)]; exact hn.nd, by rw [List.length_zip, hlz, laid_len bx dn hz]; have := hw.l1; omega, fun q hq => ?_, fun q hq => ?_⟩
  · exact (laid_mem hp hw.wok hz dn hs (hm q hq)).2.1.mono (by decide)
  · exact (laid_mem hp hw.wok hz dn hs (hm q hq)).1
theorem inW_laid {ns : List Str} {bx : Bx} {ws zs : List Int} {dn : Bool} {W H : Int} (hp : bx.Pos) (hw : WOk ws) (hz : SzOk zs ws.length) (e : bx = ⟨0, 0, (W : Rat), (H : Rat)⟩) : InW W H (ns.zip (laidB bx ws zs dn)) := fun q hq => by
  have hm := (List.of_mem_zip (a := q.1) (b := q.2) hq).2
  obtain ⟨⟨a, b⟩, c, d⟩ := laid_in hp hw hz dn hm
  subst e
  have b' : q.2.l + q.2.w ≤ 0 + (W : Rat) := b
  have d' : q.2.t + q.2.h ≤ 0 + (H : Rat) := d
  rw [Rat.zero_add] at b' d'
  exact ⟨a, b', c, d'⟩
theorem lendL_of {cs : Cs} : ∀ {xs ys : List D}, xs.length = ys.length → (∀ (i : Nat) (x y : D), xs[i]? = some x → ys[i]? = some y → Lend cs x y) → LendL cs xs ys
  | [], [], _, _ => .nil
  | [], _ :: _, e, _ => by cases e
  | _ :: _, [], e, _ => by cases e
  | x :: xs, y :: ys, e, h => .cons (h 0 x y rfl rfl) (lendL_of (Nat.succ.inj e) fun i u v h1 h2 => h (i + 1) u v h1 h2)
def rowsD (f : Nat → Nat → Str) (R C : Nat) : List D := (List.range R).map fun r => .lst ((rowF f C r).map D.str)
theorem RowsAt.lend {cs cs' : Cs} {f : Nat → Nat → Str} {R C : Nat} {q : Addr} {ps : List Addr} (h : RowsAt cs f R C q ps cs') : Lend cs' (.opq (.ref q)) (.lst (rowsD f R C)) := by
  refine .at_ h.out (lendL_of (by unfold rowsD; rw [List.length_map, List.length_map, List.length_range, h.len]) fun i x y hx hy => ?_)
  rw [List.getElem?_map] at hx
  obtain ⟨p, hp, rfl⟩ := Option.map_eq_some_iff.mp hx
  unfold rowsD at hy
  rw [List.getElem?_map] at hy
  obtain ⟨j, hj, rfl⟩ := Option.map_eq_some_iff.mp hy
  obtain ⟨hi, rfl⟩ := range_get hj
  exact .at_ (h.row i p hp) (LendL.self _ _)
end DL
namespace DL
open PySem PySem.Spec PyProof.Rows L2
section
variable {X : Cx} {W : WX} {K : PySem.W.Frag} {a b : Expr} {wa wb : DL.WE} {pos : Pos}
def oListDD : DOn := fun ds cs P => ∃ (d : D) (kvs : List (Key × D)), ds = [d] ∧ ddAt d cs = some (.inl kvs) ∧ P (.lst (kvs.map fun p => kD p.1)) cs
def oListDM : DOn := fun ds cs P => ∃ (d : D) (kvs : List (Key × D)), ds = [d] ∧ ddAt d cs = some (.inl kvs) ∧ ∀ q, q ∉ adr cs → P (.opq (.ref q)) ((q, .lst (kvs.map fun p => kD p.1)) :: cs)
theorem r_listDD {kvs : List (Key × D)} {cs : Cs} {P : DP} (h : P (.lst (kvs.map fun p => kD p.1)) cs) : oListDD [.dic kvs] cs P := ⟨_, kvs, rfl, rfl, h⟩
theorem r_listDM {kvs : List (Key × D)} {cs : Cs} {P : DP} (h : ∀ q, q ∉ adr cs → P (.opq (.ref q)) ((q, .lst (kvs.map fun p => kD p.1)) :: cs)) : oListDM [.dic kvs] cs P := ⟨_, kvs, rfl, rfl, h⟩
def oDictDD : DOn := fun ds cs P => ∃ (d : D) (kvs : List (Key × D)), ds = [d] ∧ ddAt d cs = some (.inl kvs) ∧ ∀ q, q ∉ adr cs → P (.opq (.ref q)) ((q, .dic kvs) :: cs)
theorem r_dictDD {kvs : List (Key × D)} {cs : Cs} {P : DP} (h : ∀ q, q ∉ adr cs → P (.opq (.ref q)) ((q, .dic kvs) :: cs)) : oDictDD [.dic kvs] cs P := ⟨_, kvs, rfl, rfl, h⟩
end
end DL
namespace DL
open PySem PySem.Spec PyProof.Rows L2
theorem look_filter {g : Addr × MO → Bool} {a : Addr} {m : MO} : ∀ {cs : Cs}, look a cs = some m → g (a, m) = true → look a (cs.filter g) = some m
  | [], h, _ => by cases h
  | (b, x) :: r, h, hg => by
    unfold look at h
    split at h
    · rename_i e
      cases h
      subst e
      rw [List.filter_cons_of_pos hg]
      unfold look
      rw [if_pos rfl]
    · rename_i e
      have ih := look_filter h hg
      by_cases hb : g (b, x) = true
      · rw [List.filter_cons_of_pos hb]
        unfold look
        rw [if_neg e]; exact ih
      · rw [List.filter_cons_of_neg hb]; exact ih
section
variable {K : PySem.W.Frag} {F G0 H : Hp} {cs : Cs}
theorem adr_sub {g : Addr × MO → Bool} {a : Addr} (h : a ∈ adr (cs.filter g)) : a ∈ adr cs := by
  obtain ⟨q, hq, rfl⟩ := List.mem_map.mp h
  exact List.mem_map.mpr ⟨q, (List.mem_filter.mp hq).1, rfl⟩
theorem Sta.sub (s : Sta K F G0 cs H) (g : Addr × MO → Bool) : Sta K F G0 (cs.filter g) H ∧ Ex (pur F cs H) (pur F (cs.filter g) H) := by
  have e : Ex (pur F cs H) (pur F (cs.filter g) H) := fun b u hb => by
    obtain ⟨e1, e2, e3⟩ := pur_of hb
    rw [pur_at e2 fun z => e3 (adr_sub z)]; exact e1
  refine ⟨⟨s.fr, s.gr.trans e, List.Nodup.sublist ((List.filter_sublist).map _) s.nd, fun a h => s.ap a (adr_sub h), fun a m h => ?_, s.ft⟩, e⟩
  obtain ⟨u, hu, r⟩ := s.ow a m (List.mem_filter.mp h).1
  exact ⟨u, hu, r.mono e⟩
/-- two things at one place -/
theorem nd_at : ∀ {cs : Cs} {a : Addr} {m n : MO}, (adr cs).Nodup → (a, m) ∈ cs → (a, n) ∈ cs → m = n
  | q :: r, a, m, n, nd, h1, h2 => by
    obtain ⟨n1, n2⟩ := List.nodup_cons.mp (show (q.1 :: adr r).Nodup from nd)
    rcases List.mem_cons.mp h1 with e1 | e1 <;> rcases List.mem_cons.mp h2 with e2 | e2
    · rw [← e1] at e2; cases e2; rfl
    · exact absurd (List.mem_map.mpr ⟨_, e2, by rw [← e1]⟩) n1
    · exact absurd (List.mem_map.mpr ⟨_, e1, by rw [← e2]⟩) n1
    · exact nd_at n2 e1 e2
theorem out_of {g : Addr × MO → Bool} (nd : (adr cs).Nodup) {p : Addr} {m : MO} (h : (p, m) ∈ cs) (hg : g (p, m) = false) : p ∉ adr (cs.filter g) := fun z => by
  obtain ⟨⟨a, n⟩, hq, e⟩ := List.mem_map.mp z
  have e' : a = p := e
  subst e'
  obtain ⟨h1, h2⟩ := List.mem_filter.mp hq
  rw [nd_at nd h1 h, hg] at h2
  cases h2
mutual
theorem Lend.frz {g : Addr × MO → Bool} (s : Sta K F G0 cs H) : ∀ {d d' : D} {v : V}, Lend (cs.filter fun q => !g q) d d' → Rep K (pur F cs H) v d → Rep K (pur F (cs.filter g) H) v d'
  | _, _, _, .same d, r => r.mono (s.sub g).2
  | _, _, _, .at_ (p := p) (xs := xs) hl l, r => by
    cases r
    have hm := List.mem_filter.mp (look_mem hl)
    obtain ⟨o, e, m⟩ := s.ow p _ hm.1
    have hg : g (p, MO.lst xs) = false := by simpa using hm.2
    have hp : p ∈ adr cs := List.mem_map.mpr ⟨_, hm.1, rfl⟩
    cases o <;> try exact m.elim
    exact .lst (SqL.of (by rw [pur_at (s.ap p hp) (out_of s.nd hm.1 hg)]; exact e)) (LendL.frz s l m)
  | _, _, _, .tup l, r => by
    cases r with
    | tup h r => exact .tup (ex_t (s.sub g).2 h) (LendL.frz s l r)
  | _, _, _, .lst l, r => by
    cases r with
    | lst h r => exact .lst (ex_l (s.sub g).2 h) (LendL.frz s l r)
theorem LendL.frz {g : Addr × MO → Bool} (s : Sta K F G0 cs H) : ∀ {d d' : List D} {v : List V}, LendL (cs.filter fun q => !g q) d d' → RepL K (pur F cs H) v d → RepL K (pur F (cs.filter g) H) v d'
  | _, _, _, .nil, r => by cases r; exact .nil
  | _, _, _, .cons l ls, r => by
    cases r with
    | cons r rs => exact .cons (Lend.frz s l r) (LendL.frz s ls rs)
end
end
section
variable {X : Cx} {W : WX} {K : PySem.W.Frag} {e : Expr} {we : DL.WE}
/-- a value with all that may change in it is from now on data -/
def wFrzD (we : DL.WE) : DL.WE := fun ρ cs P Z => we ρ cs (fun d cs1 => ∃ (g : Addr × MO → Bool) (d' : D), Lend (cs1.filter fun q => !g q) d d' ∧ P d' (cs1.filter g)) Z
theorem d_frzD (h : DE X W e we) : DE X W e (wFrzD we) := PE.imp h fun σ H Q h => by
  obtain ⟨F, cs, ρ, P, Z, s, re, hw, pe, px⟩ := h
  refine ⟨F, cs, ρ, _, Z, s, re, hw, fun H1 cs1 v d s1 r1 h1 => ?_, px⟩
  obtain ⟨g, d', l, h2⟩ := h1
  exact pe H1 _ _ _ (s1.sub g).1 (l.frz s1 r1) h2
theorem r_frzD {ρ : DL.Env} {cs : Cs} {P : DP} {Z : XZ} (h : we ρ cs (fun d cs1 => ∃ (g : Addr × MO → Bool) (d' : D), Lend (cs1.filter fun q => !g q) d d' ∧ P d' (cs1.filter g)) Z) : wFrzD we ρ cs P Z := h
end
theorem RowsAt.frzD {cs cs' : Cs} {f : Nat → Nat → Str} {R C : Nat} {q : Addr} {ps : List Addr} {P : DP} (h : RowsAt cs f R C q ps cs') (hP : ∀ cs2, (∀ a m, look a cs = some m → look a cs2 = some m) → P (.lst (rowsD f R C)) cs2) :
    ∃ (g : Addr × MO → Bool) (d' : D), Lend (cs'.filter fun q => !g q) (.opq (.ref q)) d' ∧ P d' (cs'.filter g) := by
  refine ⟨fun z => decide (z.1 ∉ q :: ps), .lst (rowsD f R C), ?_, hP _ fun a m ha => ?_⟩
  · have hlk : ∀ a m, a ∈ q :: ps → look a cs' = some m → look a (cs'.filter fun z => !decide (z.1 ∉ q :: ps)) = some m := fun a m ha hm => look_filter hm (by simpa using ha)
    have h2 : RowsAt [] f R C q ps (cs'.filter fun z => !decide (z.1 ∉ q :: ps)) := ⟨hlk _ _ (List.mem_cons_self ..) h.out, h.len, fun r p hp => hlk _ _ (List.mem_cons_of_mem _ (List.mem_of_getElem? hp)) (h.row r p hp), h.nd, h.qn, fun a m ha => by cases ha⟩
    exact h2.lend
  · obtain ⟨h1, h2, h3⟩ := h.fr a m ha
    refine look_filter h1 (decide_eq_true fun z => ?_)
    rcases List.mem_cons.mp z with z | z
    · exact h2 z
    · exact h3 z
def szD (d : D) (m : Int) : Bool := match d with
  | .int a => decide (1 ≤ a ∧ a ≤ m)
  | _ => false
def whySq (w h c r : D) : Str := andW (badW (szD w 1000 && szD h 1000) "BadBox") (badW (szD c 40 && szD r 40) "BadSizes")
theorem line_one {f : Nat → Int} {x : Int} : ∀ n, (∀ i, i < n → f i ≤ f (i + 1)) → f 0 ≤ x → x < f n → ∃ i, i < n ∧ f i ≤ x ∧ x < f (i + 1) ∧ ∀ j, j < n → f j ≤ x → x < f (j + 1) → j = i
  | 0, _, h0, h1 => absurd h1 (by omega)
  | n + 1, hm, h0, h1 => by
    have mono : ∀ a b, a ≤ b → b ≤ n + 1 → f a ≤ f b := fun a b hab hb => by
      induction b with
      | zero => rw [Nat.le_zero.mp hab]; exact Int.le_refl _
      | succ b ih =>
        by_cases e : a = b + 1
        · rw [e]; exact Int.le_refl _
        · exact Int.le_trans (ih (by omega) (by omega)) (hm b (by omega))
    by_cases e : x < f n
    · obtain ⟨i, hi, a1, a2, a3⟩ := line_one n (fun i hi => hm i (by omega)) h0 e
      refine ⟨i, by omega, a1, a2, fun j hj b1 b2 => ?_⟩
      by_cases ej : j = n
      · subst ej; omega
      · exact a3 j (by omega) b1 b2
    · refine ⟨n, by omega, by omega, h1, fun j hj b1 b2 => ?_⟩
      by_cases ej : j = n
      · exact ej
      · have := mono (j + 1) n (by omega) (by omega)
        omega
theorem fold_one {α : Type} {p : α → Bool} {nm : α → Str} : ∀ {l : List α} {a : α} {z : Str}, a ∈ l → p a = true → (∀ b ∈ l, p b = true → b = a) → l.foldl (fun acc q => if p q = true then nm q else acc) z = nm a
  | q :: l, a, z, ha, pa, hu => by
    rw [List.foldl_cons]
    by_cases e : a ∈ l
    · exact fold_one e pa fun b hb => hu b (List.mem_cons_of_mem _ hb)
    · have eq : a = q := by
        rcases List.mem_cons.mp ha with h | h
        · exact h
        · exact absurd h e
      subst eq
      rw [if_pos pa]
      have : ∀ (l : List α) (z : Str), (∀ b ∈ l, p b = false) → l.foldl (fun acc q => if p q = true then nm q else acc) z = z := by
        intro l
        induction l with
        | nil => intro z _; rfl
        | cons b l ih =>
          intro z h
          rw [List.foldl_cons, h b (List.mem_cons_self ..)]
          exact ih z fun c hc => h c (List.mem_cons_of_mem _ hc)
      exact this l _ fun b hb => by
        cases hp : p b with
        | false => rfl
        | true => exact absurd (hu b (List.mem_cons_of_mem _ hb) hp ▸ hb) e
/-- the things of boxes that part a whole: each square lies in one -/
def OneAt (W H : Int) (C R : Nat) (nb : NB) : Prop := ∀ r c, r < R → c < C → ∃ q ∈ nb, covS W H C R q.2 r c = true ∧ ∀ q' ∈ nb, covS W H C R q'.2 r c = true → q' = q
theorem OneAt.cell {W H : Int} {C R : Nat} {nb : NB} (h : OneAt W H C R nb) {r c : Nat} (hr : r < R) (hc : c < C) : ∃ q ∈ nb, cellS W H C R nb r c = q.1 ∧ covS W H C R q.2 r c = true ∧ ∀ q' ∈ nb, covS W H C R q'.2 r c = true → q' = q := by
  obtain ⟨q, hq, hcov, hu⟩ := h r c hr hc
  exact ⟨q, hq, fold_one (p := fun q : Str × Bx => covS W H C R q.2 r c) (nm := fun q => q.1) hq hcov hu, hcov, hu⟩
theorem OneAt.iff {W H : Int} {C R : Nat} {nb : NB} (h : OneAt W H C R nb) (nd : (nb.map (·.1)).Nodup) {r c : Nat} (hr : r < R) (hc : c < C) {q : Str × Bx} (hq : q ∈ nb) : cellS W H C R nb r c = q.1 ↔ covS W H C R q.2 r c = true := by
  obtain ⟨q0, h0, e, hcov, hu⟩ := h.cell hr hc
  rw [e]
  constructor
  · intro e2
    have : q0.2 = q.2 := by
      have a1 := bxOf_mem nd (show (q.1, q0.2) ∈ nb by rw [← e2]; exact h0)
      have a2 := bxOf_mem nd (show (q.1, q.2) ∈ nb from hq)
      rw [← a1, a2]
    rw [← this]; exact hcov
  · intro e2
    rw [hu q hq e2]
theorem one_laid {ns : List Str} {bx : Bx} {ws zs : List Int} {dn : Bool} {W H : Int} {C R : Nat} (hp : bx.Pos) (hw : WOk ws) (hz : SzOk zs ws.length) (hl : ns.length = ws.length) (hpos : ∀ q ∈ ns.zip (laidB bx ws zs dn), q.2.Pos) (e : bx = ⟨0, 0, (W : Rat), (H : Rat)⟩) (hW : 0 < W) (hH : 0 < H) :
    OneAt W H C R (ns.zip (laidB bx ws zs dn)) := by
  have ok := grid_ok hp hw hz dn
  have hs := sums_wok hw hz
  have hlz : ns.length = (laidB bx ws zs dn).length := by rw [hl, laid_len bx dn hz]
  have es : (ns.zip (laidB bx ws zs dn)).map (·.2) = laidB bx ws zs dn := List.map_snd_zip (by omega)
  obtain ⟨G, hG⟩ : ∃ G, G = gridOf bx ws zs dn := ⟨_, rfl⟩
  rw [← hG] at ok
  have hcells : laidB bx ws zs dn = G.cells.map fun c => if dn then c else c.tr := by rw [hG]; exact laid_cells hw hz dn
  -- the lines of the grid
  obtain ⟨U, V, A, B, hU, hV, hcv, y0, y1, x0, x1⟩ : ∃ (U V : Int) (A B : Nat), 0 < U ∧ 0 < V ∧ (∀ (i j r c : Nat), covS W H C R (if dn then G.cell i j else (G.cell i j).tr) r c = (decide (lnR (G.Y i) U A ≤ ((if dn then r else c : Nat) : Int) ∧ ((if dn then r else c : Nat) : Int) < lnR (G.Y (i + 1)) U A) && decide (lnR (G.X i j) V B ≤ ((if dn then c else r : Nat) : Int) ∧ ((if dn then c else r : Nat) : Int) < lnR (G.X i (j + 1)) V B))) ∧
      lnR (G.Y 0) U A = 0 ∧ lnR (G.Y G.m) U A = (A : Int) ∧ (lnR G.x0 V B = 0 ∧ A = (if dn then R else C)) ∧ lnR G.x1 V B = (B : Int) ∧ B = (if dn then C else R) := by
    subst e
    have hm : G.m = (sumsOf ws zs).length := by rw [hG]; exact (sums_len ws zs).symm
    cases dn with
    | true =>
      refine ⟨H, W, R, C, hH, hW, fun i j r c => ?_, ?_, ?_, ⟨?_, rfl⟩, ?_, rfl⟩
      · show covS W H C R (G.cell i j) r c = _
        unfold covS Grid.cell
        dsimp only
        rw [cell_end, cell_end, Bool.and_comm, ← Bool.decide_and, ← Bool.decide_and]; rfl
      · have : G.Y 0 = 0 := by rw [hG]; exact edge_zero _ _ _
        rw [this]; exact lnR_zero hH
      · have : G.Y G.m = (H : Rat) := by
          rw [hm, hG]
          show edgeAt 0 (H : Rat) (sumsOf ws zs) (sumsOf ws zs).length = _
          rw [edge_len _ _ hs, Rat.zero_add]
        rw [this]; exact lnR_whole hH
      · have : G.x0 = 0 := by rw [hG]; rfl
        rw [this]; exact lnR_zero hW
      · have : G.x1 = (W : Rat) := by rw [hG]; show (0 : Rat) + (W : Rat) = _; rw [Rat.zero_add]
        rw [this]; exact lnR_whole hW
    | false =>
      refine ⟨W, H, C, R, hW, hH, fun i j r c => ?_, ?_, ?_, ⟨?_, rfl⟩, ?_, rfl⟩
      · show covS W H C R (G.cell i j).tr r c = _
        unfold covS Grid.cell Bx.tr
        dsimp only
        rw [cell_end, cell_end, ← Bool.decide_and, ← Bool.decide_and]; rfl
      · have : G.Y 0 = 0 := by rw [hG]; exact edge_zero _ _ _
        rw [this]; exact lnR_zero hW
      · have : G.Y G.m = (W : Rat) := by
          rw [hm, hG]
          show edgeAt 0 (W : Rat) (sumsOf ws zs) (sumsOf ws zs).length = _
          rw [edge_len _ _ hs, Rat.zero_add]
        rw [this]; exact lnR_whole hW
      · have : G.x0 = 0 := by rw [hG]; rfl
        rw [this]; exact lnR_zero hH
      · have : G.x1 = (H : Rat) := by rw [hG]; show (0 : Rat) + (H : Rat) = _; rw [Rat.zero_add]
        rw [this]; exact lnR_whole hH
  intro r c hr hc
  obtain ⟨x0, hA⟩ := x0
  obtain ⟨x1, hB⟩ := x1
  have ha : (if dn then r else c) < A := by rw [hA]; cases dn <;> simpa using (by assumption)
  have hb : (if dn then c else r) < B := by rw [hB]; cases dn <;> simpa using (by assumption)
  obtain ⟨a, ea⟩ : ∃ a, a = (if dn then r else c) := ⟨_, rfl⟩
  obtain ⟨b, eb⟩ : ∃ b, b = (if dn then c else r) := ⟨_, rfl⟩
  rw [← ea] at ha
  rw [← eb] at hb
  obtain ⟨i, hi, i1, i2, iu⟩ := line_one (f := fun i => lnR (G.Y i) U A) (x := (a : Int)) G.m (fun i hi => lnR_mono hU (by omega) (Rat.le_of_lt (ok.y i hi))) (by show lnR (G.Y 0) U A ≤ _; rw [y0]; omega) (by show _ < lnR (G.Y G.m) U A; rw [y1]; omega)
  have colU : ∀ i, i < G.m → ∃ j, j < G.n i ∧ lnR (G.X i j) V B ≤ (b : Int) ∧ (b : Int) < lnR (G.X i (j + 1)) V B ∧ ∀ j', j' < G.n i → lnR (G.X i j') V B ≤ (b : Int) → (b : Int) < lnR (G.X i (j' + 1)) V B → j' = j := fun i hi =>
    line_one (f := fun j => lnR (G.X i j) V B) (x := (b : Int)) (G.n i) (fun j hj => lnR_mono hV (by omega) (Rat.le_of_lt (ok.x i j hi hj))) (by show lnR (G.X i 0) V B ≤ _; rw [ok.b i hi, x0]; omega) (by show _ < lnR (G.X i (G.n i)) V B; rw [ok.e i hi, x1]; omega)
  obtain ⟨j, hj, j1, j2, ju⟩ := colU i hi
  have hmem : (if dn then G.cell i j else (G.cell i j).tr) ∈ laidB bx ws zs dn := by
    rw [hcells]
    exact List.mem_map.mpr ⟨_, List.mem_flatMap.mpr ⟨i, List.mem_range.mpr hi, List.mem_map.mpr ⟨j, List.mem_range.mpr hj, rfl⟩⟩, rfl⟩
  rw [← es] at hmem
  obtain ⟨q, hq, eq⟩ := List.mem_map.mp hmem
  have eq' : q.2 = (if dn then G.cell i j else (G.cell i j).tr) := eq
  refine ⟨q, hq, ?_, fun q' hq' hcov => ?_⟩
  · rw [eq', hcv, ← ea, ← eb, decide_eq_true ⟨i1, i2⟩, decide_eq_true ⟨j1, j2⟩]; rfl
  · have h1 : q'.2 ∈ laidB bx ws zs dn := by rw [← es]; exact List.mem_map.mpr ⟨_, hq', rfl⟩
    rw [hcells] at h1
    obtain ⟨g, hg, e2⟩ := List.mem_map.mp h1
    obtain ⟨i', hi', hg2⟩ := List.mem_flatMap.mp hg
    obtain ⟨j', hj', e3⟩ := List.mem_map.mp hg2
    have hi' := List.mem_range.mp hi'
    have hj' := List.mem_range.mp hj'
    subst e3
    rw [← e2, hcv, ← ea, ← eb, Bool.and_eq_true, decide_eq_true_eq, decide_eq_true_eq] at hcov
    have ei := iu i' hi' hcov.1.1 hcov.1.2
    subst ei
    have ej := ju j' hj' hcov.2.1 hcov.2.2
    subst ej
    -- the same box: the same thing
    have eb2 : q'.2 = q.2 := by rw [eq', ← e2]
    have pc := hpos q hq
    have hcc : (q.2).lies q.2.l q.2.t = true := liesR_iff.mpr ⟨⟨Rat.le_refl, by have := pc.w; show q.2.l < q.2.l + q.2.w; grind⟩, Rat.le_refl, by have := pc.h; show q.2.t < q.2.t + q.2.h; grind⟩
    have cnt : (ns.zip (laidB bx ws zs dn)).countP (fun z => z.2.lies q.2.l q.2.t) ≤ 1 := by
      have := laid_cnt hp hw hz dn q.2.l q.2.t
      rw [← es, List.countP_map] at this
      have e : ((ns.zip (laidB bx ws zs dn)).countP fun z => z.2.lies q.2.l q.2.t) = (ns.zip (laidB bx ws zs dn)).countP ((fun c' : Bx => c'.lies q.2.l q.2.t) ∘ fun z => z.2) := rfl
      rw [e, this]
      split <;> omega
    exact cnt_one cnt hq' hq (by show (q'.2).lies _ _ = true; rw [eb2]; exact hcc) hcc
section
variable {X : Cx} {W : WX} {K : PySem.W.Frag} {e : Expr} {w : WA} {pos : Pos}
def enumD (xs : List D) : List D := xs.mapIdx fun i x => D.tup [.int (i : Int), x]
theorem yi_enum {G : Hp} {a : Addr} {xs : List V} {ds : List D} (h : SqL K G a xs) (r : RepL K G xs ds) : YI K (Ite K a) G (enumD ds) where
  go := fun i d q F cs H s => by
    unfold enumD at q
    rw [List.getElem?_mapIdx] at q
    obtain ⟨x, hx, _⟩ := Option.map_eq_some_iff.mp q
    obtain ⟨v, hv, _⟩ := r.get hx
    exact ⟨xs, v, ex_l (s.gr.trans pur_le) h, hv⟩
  yld := fun i d q F cs H y H' s hy => by
    unfold enumD at q
    rw [List.getElem?_mapIdx] at q
    obtain ⟨x, hx, rfl⟩ := Option.map_eq_some_iff.mp q
    obtain ⟨v, hv, rv⟩ := r.get hx
    obtain ⟨T, u, rfl, hT, rfl, k⟩ := hy
    have k1 := k xs (ex_l (s.gr.trans pur_le) h)
    rw [hv] at k1
    obtain rfl := Option.some.inj k1
    obtain ⟨s2, e3⟩ := s.new (o := .tup [.int (i : Nat), v]) hT
    exact ⟨s2, .tup (SqT.of e3) (.cons (.int _) (.cons (rv.mono (s.gr.trans s2.gr)) .nil))⟩
  stop := fun F cs H s => ⟨xs, ex_l (s.gr.trans pur_le) h, by unfold enumD; rw [List.length_mapIdx, r.length]; exact Nat.le_refl _⟩
def iEn (w : WA) : WI := fun ρ cs P Z => w ρ cs (fun ds cs1 => ∃ xs, ds = [.lst xs] ∧ P (enumD xs) cs1) Z
theorem di_enum {p tpos : Pos} {elts : List Expr} {kk : Nat} (hg : Gl X "enumerate") (hm : X.mg "enumerate" = none) (ha : DA X W [e] w) (hs : starEach [e] X.env = [(false, eval e X.env)] := by rfl) :
    DI X W (.Tuple elts kk tpos) (.Call (.Name "enumerate" p) [e] [] pos) (iEn w) := PI.imp (pi_enum hg hm ha hs) fun σ H R hq => by
  obtain ⟨F, cs, ρ, P, Z, s, re, hw, pe, px⟩ := hq
  refine ⟨F, cs, ρ, _, Z, s, re, hw, fun H1 cs1 vs ds s1 r1 l1 h1 => ?_, px⟩
  obtain ⟨xs, rfl, h⟩ := h1
  cases r1 with
  | cons r1 r2 =>
    cases r2
    cases r1 with
    | lst a1 b1 => exact ⟨_, _, rfl, ex_l pur_le a1, pe H1 cs1 _ _ s1 (yi_enum a1 b1) h⟩
theorem r_enum {ρ : DL.Env} {cs : Cs} {Z : XZ} {R : List D → Cs → Prop} (h : w ρ cs (fun ds cs1 => ∃ xs, ds = [.lst xs] ∧ R (enumD xs) cs1) Z) : iEn w ρ cs R Z := h
theorem enumD_range (n : Nat) (g : Nat → D) : enumD ((List.range n).map g) = (List.range n).map fun (i : Nat) => D.tup [.int (i : Int), g i] := by
  refine List.ext_getElem? fun i => ?_
  unfold enumD
  rw [List.getElem?_mapIdx, List.getElem?_map, List.getElem?_map]
  cases e : (List.range n)[i]? with
  | none => rfl
  | some j => obtain ⟨h1, rfl⟩ := range_get e; rfl
end
end DL
namespace Lw
open PySem PySem.Spec PyProof.Rows L2 DL
local macro_rules | `(tactic| walk_at "st") => `(tactic| (first
  | with_reducible refine r_kT ?_ | with_reducible refine r_kF ?_ | with_reducible refine r_nT ?_ | with_reducible refine r_nF ?_ | with_reducible refine r_nx ?_ | with_reducible refine r_rt ?_ | with_reducible refine r_bk ?_ | with_reducible refine r_cn ?_ | with_reducible refine r_gN ?_ | with_reducible refine r_gCn ?_ | with_reducible refine r_gNl ?_ | ((with_reducible apply r_gT); (exact rfl)) | with_reducible refine r_sif ?_ | with_reducible refine r_set ?_ | with_reducible refine r_asg ?_ | with_reducible refine r_ret ?_ | with_reducible refine r_op ?_ | with_reducible refine r_test ?_
  | ((with_reducible apply r_var); (exact rfl)) | with_reducible refine r_c ?_ | with_reducible refine r_cons ?_ | with_reducible refine r_nil ?_ | with_reducible refine r_call ?_ | with_reducible refine r_cb ?_
  | with_reducible refine r_tup ?_ | with_reducible refine r_lst ?_ | with_reducible refine r_par ?_ | with_reducible refine r_setix ?_ | with_reducible refine r_and ?_ | with_reducible refine r_or ?_ | with_reducible refine r_not ?_
  | with_reducible refine r_if ?_ | with_reducible refine r_andV ?_ | with_reducible refine r_orV ?_ | with_reducible refine r_notV ?_ | with_reducible refine r_drop ?_ | with_reducible refine r_next ?_ | with_reducible refine r_un ?_ | with_reducible refine r_for ?_
  | with_reducible refine r_mtL ?_ | with_reducible refine r_mtL0 ?_ | with_reducible refine r_seqI ?_ | with_reducible refine r_tupI ?_ | with_reducible refine r_rg1 ?_ | with_reducible refine r_retN ?_ | with_reducible refine r_brk ?_ | with_reducible refine r_ct ?_
  | with_reducible refine r_ixR0 ?_ | with_reducible refine r_ixR1 ?_ | with_reducible refine r_add ?_ | with_reducible refine r_sub ?_ | with_reducible refine r_lt ?_ | with_reducible refine r_le ?_ | with_reducible refine r_gt ?_ | with_reducible refine r_ge ?_ | with_reducible refine r_neg ?_
  | with_reducible refine r_eqI ?_ | with_reducible refine r_neI ?_ | with_reducible refine r_eqR ?_ | with_reducible refine r_neR ?_ | with_reducible refine r_eqBs ?_ | with_reducible refine r_neBs ?_ | with_reducible refine r_isN ?_ | with_reducible refine r_notN ?_ | with_reducible refine r_isBs ?_ | with_reducible refine r_notBs ?_ | with_reducible refine r_isB ?_ | with_reducible refine r_notB ?_ | with_reducible refine r_eqB ?_ | with_reducible refine r_neB ?_ | with_reducible refine r_eqS ?_ | with_reducible refine r_neS ?_
  | ((with_reducible apply r_ixT); (exact rfl)) | ((with_reducible apply r_ixL); (exact rfl))
  | ((with_reducible apply r_ixM); (first | assumption | exact look_put (by assumption) | exact look_put (look_put (by assumption)) | exact look_put (look_put (look_put (by assumption))) | exact look_put (look_put (look_put (look_put (by assumption))))); (exact rfl))
  | ((with_reducible apply r_setL); (first | assumption | exact look_put (by assumption) | exact look_put (look_put (by assumption)) | exact look_put (look_put (look_put (by assumption))) | exact look_put (look_put (look_put (look_put (by assumption))))); (exact rfl))
  | ((with_reducible apply r_mul); (first | exact mulOk_r (by decide) | exact mulOk_l (by decide) | assumption | exact mulOk_r (by omega) | exact mulOk_l (by omega)))
  | ((with_reducible apply r_mod); (first | assumption | decide)) | ((with_reducible apply r_div); (first | assumption | exact ⟨by decide, by decide⟩)) | ((with_reducible apply r_pow); (exact ⟨by decide, by decide, by decide⟩))
  | ((with_reducible apply r_count); (exact rfl); (exact rfl)) | with_reducible refine r_abs ?_ | ((with_reducible apply r_isiT); (exact rfl)) | ((with_reducible apply r_isiF); (exact rfl)) | ((with_reducible apply r_isiTT); (exact rfl); (exact rfl); (exact rfl)) | ((with_reducible apply r_isiTF); (exact rfl); (exact rfl); (exact rfl)) | with_reducible refine r_tupleL ?_ | with_reducible refine r_tupleT ?_ | with_reducible refine r_sl ?_ | with_reducible refine r_revL ?_ | with_reducible refine r_revLL ?_ | with_reducible refine r_noPart ?_ | with_reducible refine DL.r_part ?_ | with_reducible refine r_slL ?_ | with_reducible refine r_slT ?_ | with_reducible refine r_yes ?_ | with_reducible refine r_comp ?_ | with_reducible refine r_zipL ?_ | with_reducible refine r_lenL ?_ | with_reducible refine r_lenT ?_ | with_reducible refine r_listL ?_ | with_reducible refine r_listT ?_ | with_reducible refine r_isL ?_
  | with_reducible refine r_ixB0 ?_ | with_reducible refine r_ixB1 ?_ | with_reducible refine r_ixB2 ?_ | with_reducible refine r_ixB3 ?_ | with_reducible refine r_eqDn ?_ | with_reducible refine r_eqAc ?_ | with_reducible refine r_frz ?_ | with_reducible refine r_frzH ?_ | (with_reducible refine ⟨_, _, rfl, look_hd, ?_⟩; rw [del_hd]) | with_reducible refine r_isMH ?_ | with_reducible refine r_lstM ?_ | with_reducible refine r_chain ?_ | with_reducible refine r_par3 ?_ | with_reducible refine r_callK ?_ | with_reducible refine r_anyI ?_ | with_reducible refine r_callD ?_
  | ((with_reducible apply r_aug); (exact rfl))))
local macro_rules | `(tactic| walk_at "g1") => `(tactic| repeat (walk_at "st"))
local macro_rules | `(tactic| walk_at "go") => `(tactic| repeat (first | with_reducible refine r_seq ?_ | walk_at "st"))
local macro_rules | `(tactic| walk_at "s2") => `(tactic| (first
  | with_reducible refine r_compM_ ?_ | with_reducible refine r_comp2 ?_ | with_reducible refine r_zip ?_ | with_reducible refine r_zipM ?_ | with_reducible refine r_lenH ?_ | with_reducible refine r_lenXL ?_ | with_reducible refine r_tupH ?_ | with_reducible refine r_tupXL ?_ | with_reducible refine r_tupXT ?_ | with_reducible refine r_listXH ?_ | with_reducible refine r_listXL ?_ | with_reducible refine r_listXT ?_ | with_reducible refine r_listML ?_ | with_reducible refine r_listMT ?_ | with_reducible refine r_listDD ?_ | with_reducible refine r_listDM ?_ | with_reducible refine r_dictDD ?_ | with_reducible refine r_min2 ?_ | with_reducible refine r_max2 ?_ | with_reducible refine r_sumL ?_ | with_reducible refine r_sumT ?_ | with_reducible refine r_clearH ?_ | with_reducible refine r_gStar ?_ | with_reducible refine r_gone ?_ | with_reducible refine r_goneH ?_ | with_reducible refine r_ix0 ?_ | with_reducible refine r_ix0T ?_ | with_reducible refine r_slAL ?_ | with_reducible refine r_slAT ?_ | with_reducible refine r_flatB ?_ | with_reducible refine r_dn1 ?_ | with_reducible refine r_ac1 ?_ | with_reducible refine r_dn2 ?_ | with_reducible refine r_ac2 ?_ | with_reducible refine r_dn3 ?_ | with_reducible refine r_ac3 ?_ | with_reducible refine r_dn4 ?_ | with_reducible refine r_ac4 ?_ | with_reducible refine r_dn5 ?_ | with_reducible refine r_ac5 ?_ | with_reducible refine r_app11 ?_ | with_reducible refine r_app12 ?_ | with_reducible refine r_app21 ?_ | with_reducible refine r_app22 ?_ | with_reducible refine r_app31 ?_ | with_reducible refine r_app32 ?_ | with_reducible refine r_app41 ?_ | with_reducible refine r_app42 ?_ | with_reducible refine r_app51 ?_ | with_reducible refine r_app52 ?_
  | ((with_reducible apply r_lenW); (assumption)) | ((with_reducible apply r_sumW); (assumption)) | ((with_reducible apply r_catLL); (walk_at "in")) | ((with_reducible apply r_catML); (walk_at "in")) | ((with_reducible apply r_catT); (walk_at "in")) | ((with_reducible apply r_catB); (walk_at "in")) | ((with_reducible apply r_appendH); (walk_at "in"))))
local macro_rules | `(tactic| walk_at "s0") => `(tactic| (first
  | with_reducible refine q_sif ?_ | with_reducible refine q_set ?_ | with_reducible refine q_asg ?_ | with_reducible refine q_ret ?_ | with_reducible refine q_drop ?_ | with_reducible refine q_next ?_ | with_reducible refine q_par ?_ | with_reducible refine q_for ?_ | with_reducible refine q_par3 ?_ | with_reducible refine q_setix ?_ | with_reducible refine q_brk ?_ | with_reducible refine q_ct ?_ | with_reducible refine q_retN ?_ | ((with_reducible apply q_aug); (exact rfl))))
local macro_rules | `(tactic| walk_at "cl") => `(tactic| fail)
local macro_rules | `(tactic| walk_at "n0") => `(tactic| (first | ((with_reducible refine g_e ?_); (first | with_reducible refine r_op ?_ | ((with_reducible apply r_var); (exact rfl)) | with_reducible refine r_c ?_ | with_reducible refine r_call ?_ | with_reducible refine r_cb ?_ | with_reducible refine r_tup ?_ | with_reducible refine r_lst ?_ | with_reducible refine r_if ?_ | with_reducible refine r_andV ?_ | with_reducible refine r_orV ?_ | with_reducible refine r_notV ?_ | with_reducible refine r_un ?_ | with_reducible refine r_mtL ?_ | with_reducible refine r_mtL0 ?_ | with_reducible refine r_sl ?_ | with_reducible refine r_revL ?_ | with_reducible refine r_revLL ?_ | with_reducible refine r_comp ?_ | with_reducible refine r_frz ?_ | with_reducible refine r_frzD ?_ | with_reducible refine r_lstM ?_ | with_reducible refine r_chain ?_ | with_reducible refine r_callK ?_ | with_reducible refine r_callD ?_ | with_reducible refine r_compM_ ?_ | with_reducible refine r_comp2 ?_ | with_reducible refine r_gone ?_ | with_reducible refine r_newK ?_ | with_reducible refine r_newT ?_ | with_reducible refine r_oneK ?_ | with_reducible refine r_lockD ?_ | with_reducible refine r_dcK ?_ | with_reducible refine r_dcT ?_ | with_reducible refine r_dcKT ?_ | with_reducible refine r_lstR ?_ | with_reducible refine r_lstZ ?_ | with_reducible refine r_lstRM ?_ | with_reducible refine r_mtD ?_ | with_reducible refine r_get2 ?_ | with_reducible refine r_lenSet ?_ | with_reducible refine r_lrep ?_ | with_reducible refine r_lrepM ?_ | with_reducible refine r_slrep ?_ | with_reducible refine r_callG ?_ | ((with_reducible apply r_lam); (walk_at "tb")) | with_reducible refine r_ask ?_ | with_reducible refine r_why ?_ | with_reducible refine r_m1 ?_ | with_reducible refine r_fmt ?_ | with_reducible refine r_joined ?_)) | ((with_reducible refine g_a ?_); (first | with_reducible refine r_cons ?_ | with_reducible refine r_nil ?_ | with_reducible refine r_seqI ?_ | with_reducible refine r_tupI ?_ | with_reducible refine r_rg1 ?_ | with_reducible refine r_zipL ?_ | with_reducible refine r_anyI ?_ | with_reducible refine r_zip ?_ | with_reducible refine r_zipM ?_ | with_reducible refine r_keysI ?_ | with_reducible refine r_itT ?_ | with_reducible refine r_strI ?_ | with_reducible refine r_orT ?_ | with_reducible refine r_itK ?_ | with_reducible refine r_rg2 ?_ | with_reducible refine r_rev1 ?_ | with_reducible refine r_enum ?_ | with_reducible refine r_rg3 ?_)) | ((with_reducible refine g_2 ?_); (first | with_reducible refine r_ixR0 ?_ | with_reducible refine r_ixR1 ?_ | with_reducible refine r_add ?_ | with_reducible refine r_sub ?_ | with_reducible refine r_lt ?_ | with_reducible refine r_le ?_ | with_reducible refine r_gt ?_ | with_reducible refine r_ge ?_ | with_reducible refine r_eqI ?_ | with_reducible refine r_neI ?_ | with_reducible refine r_eqR ?_ | with_reducible refine r_neR ?_ | with_reducible refine r_eqSs ?_ | with_reducible refine r_neSs ?_ | with_reducible refine r_eqBs ?_ | with_reducible refine r_neBs ?_ | with_reducible refine r_isN ?_ | with_reducible refine r_notN ?_ | with_reducible refine r_isBs ?_ | with_reducible refine r_notBs ?_ | with_reducible refine r_isB ?_ | with_reducible refine r_notB ?_ | with_reducible refine r_eqB ?_ | with_reducible refine r_neB ?_ | with_reducible refine r_eqS ?_ | with_reducible refine r_neS ?_ | ((with_reducible apply r_ixT); (exact rfl)) | ((with_reducible apply r_ixL); (exact rfl)) | ((with_reducible apply r_ixM); (first | assumption | exact look_put (by assumption) | exact look_put (look_put (by assumption)) | exact look_put (look_put (look_put (by assumption))) | exact look_put (look_put (look_put (look_put (by assumption))))); (exact rfl)) | ((with_reducible apply r_mul); (first | exact mulOk_r (by decide) | exact mulOk_l (by decide) | assumption | exact mulOk_r (by omega) | exact mulOk_l (by omega))) | ((with_reducible apply r_mod); (first | assumption | decide)) | ((with_reducible apply r_div); (first | assumption | exact ⟨by decide, by decide⟩)) | ((with_reducible apply r_pow); (exact ⟨by decide, by decide, by decide⟩)) | with_reducible refine r_ixB0 ?_ | with_reducible refine r_ixB1 ?_ | with_reducible refine r_ixB2 ?_ | with_reducible refine r_ixB3 ?_ | with_reducible refine r_eqDn ?_ | with_reducible refine r_eqAc ?_ | with_reducible refine r_ix0 ?_ | with_reducible refine r_ix0T ?_ | ((with_reducible apply r_catLL); (walk_at "in")) | ((with_reducible apply r_catML); (walk_at "in")) | ((with_reducible apply r_catT); (walk_at "in")) | ((with_reducible apply r_catB); (walk_at "in")) | ((with_reducible apply r_catS); (walk_at "in")) | with_reducible refine r_inS ?_ | ((with_reducible apply r_getSh); (walk_at "in"); (walk_at "in"); (walk_at "in")) | ((with_reducible apply r_getKI); (first | assumption | (walk_at "lk"))) | ((with_reducible apply r_getKS); (first | assumption | (walk_at "lk"))) | ((with_reducible apply r_getT2); (first | assumption | (walk_at "lk"))) | ((with_reducible apply r_getMI); (first | exact look_hd | assumption); (first | assumption | (walk_at "lk"))) | ((with_reducible apply r_getMS); (first | exact look_hd | assumption); (first | assumption | (walk_at "lk"))) | ((with_reducible apply r_getMT2); (first | exact look_hd | assumption); (first | assumption | (walk_at "lk"))) | with_reducible refine r_inKI ?_ | with_reducible refine r_inKS ?_ | with_reducible refine r_inT2 ?_ | with_reducible refine r_notKI ?_ | with_reducible refine r_notKS ?_ | with_reducible refine r_inLI ?_ | with_reducible refine r_inTI ?_ | with_reducible refine r_niLI ?_ | with_reducible refine r_niTI ?_ | with_reducible refine r_inLS ?_ | with_reducible refine r_niLS ?_ | ((with_reducible apply r_inMI); (first | exact look_hd | assumption)) | ((with_reducible apply r_inMS); (first | exact look_hd | assumption)) | ((with_reducible apply r_notMI); (first | exact look_hd | assumption)) | ((with_reducible apply r_notMS); (first | exact look_hd | assumption)))) | ((with_reducible refine g_c ?_); (first | with_unfolding_none refine r_kT ?_ | with_unfolding_none refine r_kF ?_ | with_unfolding_none refine r_nT ?_ | with_unfolding_none refine r_nF ?_ | with_reducible refine r_isL ?_ | with_reducible refine r_isMH ?_ | ((with_reducible apply r_isDM); (first | exact look_hd | assumption)) | with_reducible refine r_ddK ?_ | ((with_reducible apply r_ddM); (first | exact look_hd | assumption)) | with_reducible refine r_flatB ?_)) | ((with_reducible refine g_t ?_); (first | with_reducible refine r_test ?_ | with_reducible refine r_and ?_ | with_reducible refine r_or ?_ | with_reducible refine r_not ?_ | with_reducible refine r_yes ?_)) | ((with_reducible refine g_p ?_); (first | with_reducible refine r_dn1 ?_ | with_reducible refine r_ac1 ?_ | with_reducible refine r_dn2 ?_ | with_reducible refine r_ac2 ?_ | with_reducible refine r_dn3 ?_ | with_reducible refine r_ac3 ?_ | with_reducible refine r_dn4 ?_ | with_reducible refine r_ac4 ?_ | with_reducible refine r_dn5 ?_ | with_reducible refine r_ac5 ?_ | with_reducible refine r_app11 ?_ | with_reducible refine r_app12 ?_ | with_reducible refine r_app21 ?_ | with_reducible refine r_app22 ?_ | with_reducible refine r_app31 ?_ | with_reducible refine r_app32 ?_ | with_reducible refine r_app41 ?_ | with_reducible refine r_app42 ?_ | with_reducible refine r_app51 ?_ | with_reducible refine r_app52 ?_ | walk_at "cl")) | ((with_reducible refine g_n ?_); (first | with_reducible refine r_abs ?_ | ((with_reducible apply r_isiT); (exact rfl)) | ((with_reducible apply r_isiF); (exact rfl)) | ((with_reducible apply r_isiTT); (exact rfl); (exact rfl); (exact rfl)) | ((with_reducible apply r_isiTF); (exact rfl); (exact rfl); (exact rfl)) | with_reducible refine r_tupleL ?_ | with_reducible refine r_tupleT ?_ | with_reducible refine r_lenL ?_ | with_reducible refine r_lenT ?_ | with_reducible refine r_listL ?_ | with_reducible refine r_listT ?_ | with_reducible refine r_listB ?_ | with_reducible refine r_lenB ?_ | with_reducible refine r_lenH ?_ | with_reducible refine r_lenXL ?_ | with_reducible refine r_tupH ?_ | with_reducible refine r_tupXL ?_ | with_reducible refine r_tupXT ?_ | with_reducible refine r_listXH ?_ | with_reducible refine r_listXL ?_ | with_reducible refine r_listXT ?_ | with_reducible refine r_listML ?_ | with_reducible refine r_listMT ?_ | with_reducible refine r_listDD ?_ | with_reducible refine r_listDM ?_ | with_reducible refine r_dictDD ?_ | with_reducible refine r_min2 ?_ | with_reducible refine r_max2 ?_ | with_reducible refine r_sumL ?_ | with_reducible refine r_sumT ?_ | ((with_reducible apply r_lenW); (assumption)) | ((with_reducible apply r_sumW); (assumption)))) | ((with_reducible refine g_g ?_); (first | with_reducible refine r_gN ?_ | ((with_reducible apply r_gT); (exact rfl)) | ((with_reducible apply r_gL); (exact rfl)) | with_reducible refine r_gStar ?_)) | ((with_reducible refine g_gs ?_); (first | with_reducible refine r_gCn ?_ | with_reducible refine r_gNl ?_)) | ((with_reducible refine g_m ?_); (first | ((with_reducible apply r_count); (exact rfl); (exact rfl)) | with_reducible refine r_clearH ?_ | ((with_reducible apply r_appendH); (walk_at "in")) | ((with_reducible apply r_updH); (walk_at "in")))) | ((with_reducible refine g_o ?_); (first | with_reducible refine r_noPart ?_ | with_reducible refine DL.r_part ?_)) | ((with_reducible refine g_w ?_); (first | ((with_reducible apply r_setL); (first | assumption | exact look_put (by assumption) | exact look_put (look_put (by assumption)) | exact look_put (look_put (look_put (by assumption))) | exact look_put (look_put (look_put (look_put (by assumption))))); (exact rfl)) | ((with_reducible apply r_setKI); (walk_at "in")) | ((with_reducible apply r_setKS); (walk_at "in")))) | with_reducible refine r_isStr ?_ | with_reducible refine r_jsC ?_ | with_reducible refine r_jsN ?_ | with_reducible refine r_neg ?_ | with_reducible refine r_slL ?_ | with_reducible refine r_slT ?_ | with_reducible refine r_slB ?_ | with_reducible refine r_frzH ?_ | (with_reducible refine ⟨_, _, rfl, look_hd, ?_⟩; rw [del_hd]) | with_reducible refine r_goneH ?_ | with_reducible refine r_slAL ?_ | with_reducible refine r_slAT ?_ | ((with_reducible apply r_setT2); (walk_at "in")) | (with_reducible refine ⟨_, rfl, look_hd, ?_⟩; rw [put_hd]) | (with_reducible refine ⟨_, rfl, Or.inl ⟨_, look_hd, ?_⟩⟩; rw [del_hd]) | (with_reducible refine ⟨_, rfl, Or.inr ⟨_, look_hd, ?_⟩⟩; rw [del_hd]) | with_reducible refine r_goneEx ?_ | with_reducible refine r_gvKI ?_ | with_reducible refine r_gvKS ?_ | ((with_reducible apply r_gvMI); (first | exact look_hd | assumption)) | ((with_reducible apply r_gvMS); (first | exact look_hd | assumption)) | with_reducible refine r_ks2 ?_ | with_reducible refine r_kkI ?_ | with_reducible refine r_kkS ?_ | ((with_reducible apply r_pk2); (exact rfl); (exact rfl)) | ((with_reducible apply r_pk1); (exact rfl)) | ((with_reducible apply r_lrepE); (walk_at "in"); (walk_at "in")) | refine And.intro (show _ ∈ exL by decide) ⟨_, rfl, ?_⟩))
local macro_rules | `(tactic| walk_at "nS") => `(tactic| ((with_reducible refine g_s ?_); (first | with_reducible refine r_raise ?_ | with_reducible refine q_sif ?_ | with_reducible refine q_set ?_ | with_reducible refine q_asg ?_ | with_reducible refine q_ret ?_ | with_reducible refine q_drop ?_ | with_reducible refine q_next ?_ | with_reducible refine q_par ?_ | with_reducible refine q_for ?_ | with_reducible refine q_par3 ?_ | with_reducible refine q_setix ?_ | with_reducible refine q_brk ?_ | with_reducible refine q_ct ?_ | with_reducible refine q_retN ?_ | with_reducible refine q_setDK ?_ | with_reducible refine q_setDT ?_ | with_reducible refine q_goneA ?_ | with_reducible refine q_frzA ?_ | with_reducible refine q_lockA ?_ | with_reducible refine q_setSl ?_ | ((with_reducible apply q_aug); (exact rfl)))))
local macro_rules | `(tactic| walk_at "nQ") => `(tactic| ((with_reducible refine g_s ?_); (first | with_reducible refine r_raise ?_ | with_reducible refine r_seq ?_ | with_reducible refine q_sif ?_ | with_reducible refine q_set ?_ | with_reducible refine q_asg ?_ | with_reducible refine q_ret ?_ | with_reducible refine q_drop ?_ | with_reducible refine q_next ?_ | with_reducible refine q_par ?_ | with_reducible refine q_for ?_ | with_reducible refine q_par3 ?_ | with_reducible refine q_setix ?_ | with_reducible refine q_brk ?_ | with_reducible refine q_ct ?_ | with_reducible refine q_retN ?_ | with_reducible refine q_setDK ?_ | with_reducible refine q_setDT ?_ | with_reducible refine q_goneA ?_ | with_reducible refine q_frzA ?_ | with_reducible refine q_lockA ?_ | with_reducible refine q_setSl ?_ | ((with_reducible apply q_aug); (exact rfl)))))
local macro_rules | `(tactic| walk_at "lk") => `(tactic| fail)
local macro_rules | `(tactic| walk_at "ge") => `(tactic| first | assumption | exact Rat.le_refl)
local macro_rules | `(tactic| walk_at "G1") => `(tactic| repeat (first | walk_at "nS" | walk_at "n0"))
local macro_rules | `(tactic| walk_at "GO") => `(tactic| repeat (first | walk_at "nQ" | walk_at "n0"))
local macro_rules | `(tactic| walk_at "nz") => `(tactic| first | assumption | (refine Rat.ne_of_gt ?_; walk_at "pz"))
local macro_rules | `(tactic| walk_at "pz") => `(tactic| first | assumption | (refine Bx.Pos.w ?_; assumption) | (refine Bx.Pos.h ?_; assumption) | (apply Rat.mul_pos <;> walk_at "pz") | (apply divInt_pos' <;> omega) | (apply Rat.div_pos <;> walk_at "pz"))
local macro_rules | `(tactic| walk_at "sy") => `(tactic| first | assumption | ((apply Bx.Sz.l); assumption) | ((apply Bx.Sz.t); assumption) | ((apply Bx.Sz.w); assumption) | ((apply Bx.Sz.h); assumption) | (apply Sz.absR; walk_at "sy") | (apply Sz.add <;> walk_at "sy") | (apply Sz.sub <;> walk_at "sy") | (apply Sz.mul <;> walk_at "sy") | ((apply Sz.shape); (walk_at "sy"); (walk_at "sy"); (walk_at "pz"); (walk_at "pz")) | ((apply Sz.div); (walk_at "sy"); (walk_at "sy"); (walk_at "nz")) | (apply Sz.frac <;> omega))
local macro_rules | `(tactic| walk_at "sz") => `(tactic| first | assumption | ((apply Sz.mono); (walk_at "sy"); (decide)) | ((apply Bx.Sz.mono); (assumption); (decide)) | exact ⟨by decide, by decide⟩)
local macro_rules | `(tactic| walk_at "bg") => `(tactic| first | assumption | exact BagStep.bag (by assumption) | ((refine BagIn.over ?_ ?_); (assumption); (walk_at "bg")))
local macro_rules | `(tactic| walk_at "in") => `(tactic| first | with_reducible assumption | omega | decide | (simp only [List.length_map, List.length_cons, List.length_nil, List.length_append, List.length_take, List.length_drop]; omega))
local macro_rules | `(tactic| walk_at "wd") => `(tactic| first | assumption | exact WD.l _ | exact WD.t _)
local macro_rules | `(tactic| walk_at "p9") => `(tactic| first | assumption | exact szlt (by omega) (by omega))
local macro_rules | `(tactic| walk_at "pb") => `(tactic| first | assumption)
local macro_rules | `(tactic| walk_at "zs") => `(tactic| first | assumption)
local macro_rules | `(tactic| walk_at "pl") => `(tactic| first | assumption | rfl | ((apply plD_Bxs); (walk_at "in")) | ((apply plD_ints); (walk_at "in")) | ((apply plD_intsT); (walk_at "in")) | exact plD_dR _)
local macro_rules | `(tactic| walk_at "tb") => `(tactic| first | with_reducible assumption | (apply tb_step; assumption; assumption; walk_at "tb") | (apply tb_cons; assumption; walk_at "tb") | (apply tb_put; assumption; walk_at "tb"))
local macro_rules | `(tactic| walk_at "nm") => `(tactic| first | assumption | (refine List.mem_map.mpr ⟨(_, _), ?_, rfl⟩; assumption))
local macro_rules | `(tactic| walk_at "wk") => `(tactic| first | assumption | exact WtOk.wok (by assumption))
abbrev FnP (K : PySem.W.Frag) (x : Str) (st : Stmt) (kws : List (Str × V)) (f : Addr) (fd : FuncData) (dvs : List V := []) : Prop := FunD K x x (defArgs st) (defBody st) (defScope st) dvs kws f fd
/-- what the top has written -/
structure Txt (K : PySem.W.Frag) (mg : Str → Option Value) (base : Heap) : Type where
  fd_law_bag : FuncData
  F_law_bag : FnP K "_law_bag" s_law_bag [] (He.ga K "_law_bag") fd_law_bag
  g_law_bag : mg "_law_bag" = some (.ref (He.ga K "_law_bag"))
  fd_law_get : FuncData
  F_law_get : FnP K "_law_get" s_law_get [] (He.ga K "_law_get") fd_law_get
  g_law_get : mg "_law_get" = some (.ref (He.ga K "_law_get"))
  fd_law_weight : FuncData
  F_law_weight : FnP K "_law_weight" s_law_weight [] (He.ga K "_law_weight") fd_law_weight
  g_law_weight : mg "_law_weight" = some (.ref (He.ga K "_law_weight"))
  fd_law_weights : FuncData
  F_law_weights : FnP K "_law_weights" s_law_weights [] (He.ga K "_law_weights") fd_law_weights
  g_law_weights : mg "_law_weights" = some (.ref (He.ga K "_law_weights"))
  fd_law_parted : FuncData
  F_law_parted : FnP K "_law_parted" s_law_parted [] (He.ga K "_law_parted") fd_law_parted
  g_law_parted : mg "_law_parted" = some (.ref (He.ga K "_law_parted"))
  fd_law_gcd : FuncData
  F_law_gcd : FnP K "_law_gcd" s_law_gcd [] (He.ga K "_law_gcd") fd_law_gcd
  g_law_gcd : mg "_law_gcd" = some (.ref (He.ga K "_law_gcd"))
  fd_law_part : FuncData
  F_law_part : FnP K "_law_part" s_law_part [] (He.ga K "_law_part") fd_law_part
  g_law_part : mg "_law_part" = some (.ref (He.ga K "_law_part"))
  fd_law_plus : FuncData
  F_law_plus : FnP K "_law_plus" s_law_plus [] (He.ga K "_law_plus") fd_law_plus
  g_law_plus : mg "_law_plus" = some (.ref (He.ga K "_law_plus"))
  fd_law_times : FuncData
  F_law_times : FnP K "_law_times" s_law_times [] (He.ga K "_law_times") fd_law_times
  g_law_times : mg "_law_times" = some (.ref (He.ga K "_law_times"))
  fd_law_split : FuncData
  F_law_split : FnP K "_law_split" s_law_split [] (He.ga K "_law_split") fd_law_split
  g_law_split : mg "_law_split" = some (.ref (He.ga K "_law_split"))
  fd_law_turned_lean : FuncData
  F_law_turned_lean : FnP K "_law_turned_lean" s_law_turned_lean [] (He.ga K "_law_turned_lean") fd_law_turned_lean
  g_law_turned_lean : mg "_law_turned_lean" = some (.ref (He.ga K "_law_turned_lean"))
  fd_law_laid : FuncData
  F_law_laid : FnP K "_law_laid" s_law_laid [] (He.ga K "_law_laid") fd_law_laid
  g_law_laid : mg "_law_laid" = some (.ref (He.ga K "_law_laid"))
  fd_common : FuncData
  F_common : FnP K "common" s_common [] (He.ga K "common") fd_common
  g_common : mg "common" = some (.ref (He.ga K "common"))
  fd_part : FuncData
  F_part : FnP K "part" s_part [] (He.ga K "part") fd_part
  g_part : mg "part" = some (.ref (He.ga K "part"))
  fd_plus : FuncData
  F_plus : FnP K "plus" s_plus [] (He.ga K "plus") fd_plus
  g_plus : mg "plus" = some (.ref (He.ga K "plus"))
  fd_ends : FuncData
  F_ends : FnP K "ends" s_ends [] (He.ga K "ends") fd_ends
  g_ends : mg "ends" = some (.ref (He.ga K "ends"))
  fd_line_at : FuncData
  F_line_at : FnP K "line_at" s_line_at [] (He.ga K "line_at") fd_line_at
  g_line_at : mg "line_at" = some (.ref (He.ga K "line_at"))
  fd_lines_of : FuncData
  F_lines_of : FnP K "lines_of" s_lines_of [] (He.ga K "lines_of") fd_lines_of
  g_lines_of : mg "lines_of" = some (.ref (He.ga K "lines_of"))
  fd_is_whole : FuncData
  F_is_whole : FnP K "is_whole" s_is_whole [] (He.ga K "is_whole") fd_is_whole
  g_is_whole : mg "is_whole" = some (.ref (He.ga K "is_whole"))
  fd_is_size : FuncData
  F_is_size : FnP K "is_size" s_is_size [] (He.ga K "is_size") fd_is_size
  g_is_size : mg "is_size" = some (.ref (He.ga K "is_size"))
  fd_drawn : FuncData
  F_drawn : FnP K "drawn" s_drawn [] (He.ga K "drawn") fd_drawn
  g_drawn : mg "drawn" = some (.ref (He.ga K "drawn"))
  fd_law_pick : FuncData
  F_law_pick : FnP K "_law_pick" s_law_pick [] (He.ga K "_law_pick") fd_law_pick
  g_law_pick : mg "_law_pick" = some (.ref (He.ga K "_law_pick"))
  fd_law_sizes : FuncData
  F_law_sizes : FnP K "_law_sizes" s_law_sizes [] (He.ga K "_law_sizes") fd_law_sizes
  g_law_sizes : mg "_law_sizes" = some (.ref (He.ga K "_law_sizes"))
  fd_law_lean : FuncData
  F_law_lean : FnP K "_law_lean" s_law_lean [] (He.ga K "_law_lean") fd_law_lean
  g_law_lean : mg "_law_lean" = some (.ref (He.ga K "_law_lean"))
  fd_law_ask : FuncData
  F_law_ask : FnP K "_law_ask" s_law_ask [] (He.ga K "_law_ask") fd_law_ask
  g_law_ask : mg "_law_ask" = some (.ref (He.ga K "_law_ask"))
  fd_law_why : FuncData
  F_law_why : FnP K "_law_why" s_law_why [] (He.ga K "_law_why") fd_law_why
  g_law_why : mg "_law_why" = some (.ref (He.ga K "_law_why"))
  fd_law_ends : FuncData
  F_law_ends : FnP K "_law_ends" s_law_ends [] (He.ga K "_law_ends") fd_law_ends
  g_law_ends : mg "_law_ends" = some (.ref (He.ga K "_law_ends"))
  fd_law_names : FuncData
  F_law_names : FnP K "_law_names" s_law_names [] (He.ga K "_law_names") fd_law_names
  g_law_names : mg "_law_names" = some (.ref (He.ga K "_law_names"))
  fd_law_near_line : FuncData
  F_law_near_line : FnP K "_law_near_line" s_law_near_line [] (He.ga K "_law_near_line") fd_law_near_line
  g_law_near_line : mg "_law_near_line" = some (.ref (He.ga K "_law_near_line"))
  fd_law : FuncData
  F_law : FnP K "law" s_law [] (He.ga K "law") fd_law
  g_law : mg "law" = some (.ref (He.ga K "law"))
  n_abs : mg "abs" = none
  n_all : mg "all" = none
  n_any : mg "any" = none
  n_bool : mg "bool" = none
  n_dict : mg "dict" = none
  n_enumerate : mg "enumerate" = none
  n_int : mg "int" = none
  n_isinstance : mg "isinstance" = none
  n_len : mg "len" = none
  n_list : mg "list" = none
  n_max : mg "max" = none
  n_min : mg "min" = none
  n_range : mg "range" = none
  n_sum : mg "sum" = none
  n_tuple : mg "tuple" = none
  n_zip : mg "zip" = none
  c_MOST_SIZE : ∃ t, mg "MOST_SIZE" = some (.int 1000 t)
  c_MOST_SQUARES : ∃ t, mg "MOST_SQUARES" = some (.int 40 t)
  g_CutError : mg "CutError" = some (.ref (He.ga K "CutError"))
  g_Missing : mg "Missing" = some (.ref (He.ga K "Missing"))
  g_NothingLeft : mg "NothingLeft" = some (.ref (He.ga K "NothingLeft"))
  g_BadPart : mg "BadPart" = some (.ref (He.ga K "BadPart"))
  g_BadBox : mg "BadBox" = some (.ref (He.ga K "BadBox"))
  g_BadSizes : mg "BadSizes" = some (.ref (He.ga K "BadSizes"))
  x_CutError : XClass K "CutError"
  fd_i_CutError : FuncData
  F_i_CutError : FunD K "__init__" "CutError.__init__" (defArgs si_CutError) (defBody si_CutError) (defScope si_CutError) [] [] (iniA K "CutError") fd_i_CutError
  x_BadPart : XClass K "BadPart"
  fd_i_BadPart : FuncData
  F_i_BadPart : FunD K "__init__" "BadPart.__init__" (defArgs si_BadPart) (defBody si_BadPart) (defScope si_BadPart) [] [] (iniA K "BadPart") fd_i_BadPart
  x_BadBox : XClass K "BadBox"
  fd_i_BadBox : FuncData
  F_i_BadBox : FunD K "__init__" "BadBox.__init__" (defArgs si_BadBox) (defBody si_BadBox) (defScope si_BadBox) [] [] (iniA K "BadBox") fd_i_BadBox
  x_BadSizes : XClass K "BadSizes"
  fd_i_BadSizes : FuncData
  F_i_BadSizes : FunD K "__init__" "BadSizes.__init__" (defArgs si_BadSizes) (defBody si_BadSizes) (defScope si_BadSizes) [] [] (iniA K "BadSizes") fd_i_BadSizes
  n_ValueError : mg "ValueError" = none
  xcatch : CatchOk K [.ref (He.ga K "CutError"), .ref (He.ga K "Missing"), .ref (He.ga K "NothingLeft")] exL
  cd_law : fd_law.code = .ref (He.cT K ("law", none)).1
  tb_law : LamX.TabB base mg (He.cT K ("law", none)).1 (tabA K "law")
theorem b_i_CutError {K : PySem.W.Frag} {mg : Str → Option Value} {base : Heap} (T : Txt K mg base) : Binds K T.fd_i_CutError ["self", "called"] [] := FunD.bindsN T.F_i_CutError fun _ _ _ _ _ _ us hl => match us, hl with | [_, _], _ => rfl
theorem sc_i_CutError : FnScope ["self", "called"] ["self", "called"] (defScope si_CutError) := ⟨rfl, rfl, rfl, by decide +kernel, rfl, by decide +kernel, by decide +kernel⟩
theorem ok_i_CutError {P : Program} {w : World} {K : PySem.W.Frag} {mg : Str → Option Value} {base : Heap} (T : Txt K mg base) : FnOk P w K mg base (L2.CX P w) 1 (iniA K "CutError") T.fd_i_CutError ["self", "called"] (spX K 1 fun ws => [("called", ws.getD 0 .non)]) := FunD.ok T.F_i_CutError sc_i_CutError spX_len fun cdv A outer s H vs Q E hr h => ⟨_, pss_cons (ps_expr (pe_veinit rfl T.n_ValueError (vV K) (pa_cons (pe_var (i := 0) rfl (.inl rfl) (by decide) (by decide)) (pa_cons (pe_var (i := 1) rfl (.inl rfl) (by decide) (by decide)) pa_nil)))) (pss_one (ps_ost (pe_var (i := 0) rfl (.inl rfl) (by decide) (by decide)) (pe_var (i := 1) rfl (.inl rfl) (by decide) (by decide)))), base_read h⟩
theorem b_i_BadPart {K : PySem.W.Frag} {mg : Str → Option Value} {base : Heap} (T : Txt K mg base) : Binds K T.fd_i_BadPart ["self"] [] := FunD.bindsN T.F_i_BadPart fun _ _ _ _ _ _ us hl => match us, hl with | [_], _ => rfl
theorem sc_i_BadPart : FnScope ["self"] ["self"] (defScope si_BadPart) := ⟨rfl, rfl, rfl, by decide +kernel, rfl, by decide +kernel, by decide +kernel⟩
theorem ok_i_BadPart {P : Program} {w : World} {K : PySem.W.Frag} {mg : Str → Option Value} {base : Heap} (T : Txt K mg base) : FnOk P w K mg base (L2.CX P w) 2 (iniA K "BadPart") T.fd_i_BadPart ["self"] (spX K 0 (g0V "BadPart")) := FunD.ok T.F_i_BadPart sc_i_BadPart spX_len fun cdv A outer s H vs Q E hr h => ⟨_, pss_one (ps_expr (pe_cfun (ok_i_CutError T) hr rfl T.g_CutError T.x_CutError.rd T.x_CutError.vl T.F_i_CutError.kp (b_i_CutError T) .nil noOut (pa_cons (pe_var (i := 0) rfl (.inl rfl) (by decide) (by decide)) (pa_cons pe_str pa_nil)))), over_read h⟩
theorem b_i_BadBox {K : PySem.W.Frag} {mg : Str → Option Value} {base : Heap} (T : Txt K mg base) : Binds K T.fd_i_BadBox ["self"] [] := FunD.bindsN T.F_i_BadBox fun _ _ _ _ _ _ us hl => match us, hl with | [_], _ => rfl
theorem sc_i_BadBox : FnScope ["self"] ["self"] (defScope si_BadBox) := ⟨rfl, rfl, rfl, by decide +kernel, rfl, by decide +kernel, by decide +kernel⟩
theorem ok_i_BadBox {P : Program} {w : World} {K : PySem.W.Frag} {mg : Str → Option Value} {base : Heap} (T : Txt K mg base) : FnOk P w K mg base (L2.CX P w) 2 (iniA K "BadBox") T.fd_i_BadBox ["self"] (spX K 0 (g0V "BadBox")) := FunD.ok T.F_i_BadBox sc_i_BadBox spX_len fun cdv A outer s H vs Q E hr h => ⟨_, pss_one (ps_expr (pe_cfun (ok_i_CutError T) hr rfl T.g_CutError T.x_CutError.rd T.x_CutError.vl T.F_i_CutError.kp (b_i_CutError T) .nil noOut (pa_cons (pe_var (i := 0) rfl (.inl rfl) (by decide) (by decide)) (pa_cons pe_str pa_nil)))), over_read h⟩
theorem b_i_BadSizes {K : PySem.W.Frag} {mg : Str → Option Value} {base : Heap} (T : Txt K mg base) : Binds K T.fd_i_BadSizes ["self"] [] := FunD.bindsN T.F_i_BadSizes fun _ _ _ _ _ _ us hl => match us, hl with | [_], _ => rfl
theorem sc_i_BadSizes : FnScope ["self"] ["self"] (defScope si_BadSizes) := ⟨rfl, rfl, rfl, by decide +kernel, rfl, by decide +kernel, by decide +kernel⟩
theorem ok_i_BadSizes {P : Program} {w : World} {K : PySem.W.Frag} {mg : Str → Option Value} {base : Heap} (T : Txt K mg base) : FnOk P w K mg base (L2.CX P w) 2 (iniA K "BadSizes") T.fd_i_BadSizes ["self"] (spX K 0 (g0V "BadSizes")) := FunD.ok T.F_i_BadSizes sc_i_BadSizes spX_len fun cdv A outer s H vs Q E hr h => ⟨_, pss_one (ps_expr (pe_cfun (ok_i_CutError T) hr rfl T.g_CutError T.x_CutError.rd T.x_CutError.vl T.F_i_CutError.kp (b_i_CutError T) .nil noOut (pa_cons (pe_var (i := 0) rfl (.inl rfl) (by decide) (by decide)) (pa_cons pe_str pa_nil)))), over_read h⟩
theorem b_law_bag {K : PySem.W.Frag} {mg : Str → Option Value} {base : Heap} (T : Txt K mg base) : Binds K T.fd_law_bag ["_law_script"] [] := FunD.bindsN T.F_law_bag fun _ _ _ _ _ _ us hl => match us, hl with | [_], _ => rfl
theorem b_law_get {K : PySem.W.Frag} {mg : Str → Option Value} {base : Heap} (T : Txt K mg base) : Binds K T.fd_law_get ["_law_bag_here", "_law_most"] [] := FunD.bindsN T.F_law_get fun _ _ _ _ _ _ us hl => match us, hl with | [_, _], _ => rfl
theorem b_law_weight {K : PySem.W.Frag} {mg : Str → Option Value} {base : Heap} (T : Txt K mg base) : Binds K T.fd_law_weight ["_law_bag_here", "_law_kind"] [] := FunD.bindsN T.F_law_weight fun _ _ _ _ _ _ us hl => match us, hl with | [_, _], _ => rfl
theorem b_law_weights {K : PySem.W.Frag} {mg : Str → Option Value} {base : Heap} (T : Txt K mg base) : Binds K T.fd_law_weights ["_law_bag_here", "_law_most"] [] := FunD.bindsN T.F_law_weights fun _ _ _ _ _ _ us hl => match us, hl with | [_, _], _ => rfl
theorem b_law_parted {K : PySem.W.Frag} {mg : Str → Option Value} {base : Heap} (T : Txt K mg base) : Binds K T.fd_law_parted ["_law_things_now", "_law_sizes_here"] [] := FunD.bindsN T.F_law_parted fun _ _ _ _ _ _ us hl => match us, hl with | [_, _], _ => rfl
theorem b_law_gcd {K : PySem.W.Frag} {mg : Str → Option Value} {base : Heap} (T : Txt K mg base) : Binds K T.fd_law_gcd ["_law_one", "_law_other"] [] := FunD.bindsN T.F_law_gcd fun _ _ _ _ _ _ us hl => match us, hl with | [_, _], _ => rfl
theorem b_law_part {K : PySem.W.Frag} {mg : Str → Option Value} {base : Heap} (T : Txt K mg base) : Binds K T.fd_law_part ["_law_above", "_law_below"] [] := FunD.bindsN T.F_law_part fun _ _ _ _ _ _ us hl => match us, hl with | [_, _], _ => rfl
theorem b_law_plus {K : PySem.W.Frag} {mg : Str → Option Value} {base : Heap} (T : Txt K mg base) : Binds K T.fd_law_plus ["_law_one", "_law_other"] [] := FunD.bindsN T.F_law_plus fun _ _ _ _ _ _ us hl => match us, hl with | [_, _], _ => rfl
theorem b_law_times {K : PySem.W.Frag} {mg : Str → Option Value} {base : Heap} (T : Txt K mg base) : Binds K T.fd_law_times ["_law_one", "_law_other"] [] := FunD.bindsN T.F_law_times fun _ _ _ _ _ _ us hl => match us, hl with | [_, _], _ => rfl
theorem b_law_split {K : PySem.W.Frag} {mg : Str → Option Value} {base : Heap} (T : Txt K mg base) : Binds K T.fd_law_split ["_law_box", "_law_weights_here", "_law_lean_here"] [] := FunD.bindsN T.F_law_split fun _ _ _ _ _ _ us hl => match us, hl with | [_, _, _], _ => rfl
theorem b_law_turned_lean {K : PySem.W.Frag} {mg : Str → Option Value} {base : Heap} (T : Txt K mg base) : Binds K T.fd_law_turned_lean ["_law_lean_here"] [] := FunD.bindsN T.F_law_turned_lean fun _ _ _ _ _ _ us hl => match us, hl with | [_], _ => rfl
theorem b_law_laid {K : PySem.W.Frag} {mg : Str → Option Value} {base : Heap} (T : Txt K mg base) : Binds K T.fd_law_laid ["_law_box", "_law_weights_here", "_law_sizes_here", "_law_lean_here"] [] := FunD.bindsN T.F_law_laid fun _ _ _ _ _ _ us hl => match us, hl with | [_, _, _, _], _ => rfl
theorem b_common {K : PySem.W.Frag} {mg : Str → Option Value} {base : Heap} (T : Txt K mg base) : Binds K T.fd_common ["one", "other"] [] := FunD.bindsN T.F_common fun _ _ _ _ _ _ us hl => match us, hl with | [_, _], _ => rfl
theorem b_part {K : PySem.W.Frag} {mg : Str → Option Value} {base : Heap} (T : Txt K mg base) : Binds K T.fd_part ["above", "below"] [] := FunD.bindsN T.F_part fun _ _ _ _ _ _ us hl => match us, hl with | [_, _], _ => rfl
theorem b_plus {K : PySem.W.Frag} {mg : Str → Option Value} {base : Heap} (T : Txt K mg base) : Binds K T.fd_plus ["one", "other"] [] := FunD.bindsN T.F_plus fun _ _ _ _ _ _ us hl => match us, hl with | [_, _], _ => rfl
theorem b_ends {K : PySem.W.Frag} {mg : Str → Option Value} {base : Heap} (T : Txt K mg base) : Binds K T.fd_ends ["box"] [] := FunD.bindsN T.F_ends fun _ _ _ _ _ _ us hl => match us, hl with | [_], _ => rfl
theorem b_line_at {K : PySem.W.Frag} {mg : Str → Option Value} {base : Heap} (T : Txt K mg base) : Binds K T.fd_line_at ["spot", "whole", "many"] [] := FunD.bindsN T.F_line_at fun _ _ _ _ _ _ us hl => match us, hl with | [_, _, _], _ => rfl
theorem b_lines_of {K : PySem.W.Frag} {mg : Str → Option Value} {base : Heap} (T : Txt K mg base) : Binds K T.fd_lines_of ["box", "wide", "high", "columns", "rows"] [] := FunD.bindsN T.F_lines_of fun _ _ _ _ _ _ us hl => match us, hl with | [_, _, _, _, _], _ => rfl
theorem b_is_whole {K : PySem.W.Frag} {mg : Str → Option Value} {base : Heap} (T : Txt K mg base) : Binds K T.fd_is_whole ["thing"] [] := FunD.bindsN T.F_is_whole fun _ _ _ _ _ _ us hl => match us, hl with | [_], _ => rfl
theorem b_is_size {K : PySem.W.Frag} {mg : Str → Option Value} {base : Heap} (T : Txt K mg base) : Binds K T.fd_is_size ["thing", "most"] [] := FunD.bindsN T.F_is_size fun _ _ _ _ _ _ us hl => match us, hl with | [_, _], _ => rfl
theorem b_drawn {K : PySem.W.Frag} {mg : Str → Option Value} {base : Heap} (T : Txt K mg base) : Binds K T.fd_drawn ["boxes", "wide", "high", "columns", "rows"] [] := FunD.bindsN T.F_drawn fun _ _ _ _ _ _ us hl => match us, hl with | [_, _, _, _, _], _ => rfl
theorem b_law_pick {K : PySem.W.Frag} {mg : Str → Option Value} {base : Heap} (T : Txt K mg base) : Binds K T.fd_law_pick ["_law_bag_here", "_law_some"] [] := FunD.bindsN T.F_law_pick fun _ _ _ _ _ _ us hl => match us, hl with | [_, _], _ => rfl
theorem b_law_sizes {K : PySem.W.Frag} {mg : Str → Option Value} {base : Heap} (T : Txt K mg base) : Binds K T.fd_law_sizes ["_law_bag_here", "_law_many"] [] := FunD.bindsN T.F_law_sizes fun _ _ _ _ _ _ us hl => match us, hl with | [_, _], _ => rfl
theorem b_law_lean {K : PySem.W.Frag} {mg : Str → Option Value} {base : Heap} (T : Txt K mg base) : Binds K T.fd_law_lean ["_law_bag_here"] [] := FunD.bindsN T.F_law_lean fun _ _ _ _ _ _ us hl => match us, hl with | [_], _ => rfl
theorem b_law_ask {K : PySem.W.Frag} {mg : Str → Option Value} {base : Heap} (T : Txt K mg base) : Binds K T.fd_law_ask ["_law_ask_here"] [] := FunD.bindsN T.F_law_ask fun _ _ _ _ _ _ us hl => match us, hl with | [_], _ => rfl
theorem b_law_why {K : PySem.W.Frag} {mg : Str → Option Value} {base : Heap} (T : Txt K mg base) : Binds K T.fd_law_why ["_law_ask_here"] [] := FunD.bindsN T.F_law_why fun _ _ _ _ _ _ us hl => match us, hl with | [_], _ => rfl
theorem b_law_ends {K : PySem.W.Frag} {mg : Str → Option Value} {base : Heap} (T : Txt K mg base) : Binds K T.fd_law_ends ["_law_box"] [] := FunD.bindsN T.F_law_ends fun _ _ _ _ _ _ us hl => match us, hl with | [_], _ => rfl
theorem b_law_names {K : PySem.W.Frag} {mg : Str → Option Value} {base : Heap} (T : Txt K mg base) : Binds K T.fd_law_names ["_law_bag_here", "_law_many"] [] := FunD.bindsN T.F_law_names fun _ _ _ _ _ _ us hl => match us, hl with | [_, _], _ => rfl
theorem b_law_near_line {K : PySem.W.Frag} {mg : Str → Option Value} {base : Heap} (T : Txt K mg base) : Binds K T.fd_law_near_line ["_law_line", "_law_spot", "_law_whole_now", "_law_many"] [] := FunD.bindsN T.F_law_near_line fun _ _ _ _ _ _ us hl => match us, hl with | [_, _, _, _], _ => rfl
def sp_law_bag : DSp := fun ds cs P _ => ∃ ns : List Int, ds = [.lst (ns.map D.int)] ∧ ∀ p b, p ∉ adr cs → BagOk b → P (.opq (.ref p)) ((p, b) :: cs)
theorem sc_law_bag : FnScope ["_law_script"] ["_law_script"] (defScope s_law_bag) := ⟨rfl, rfl, rfl, by decide +kernel, rfl, by decide +kernel, by decide +kernel⟩
theorem ok_law_bag {P : Program} {w : World} {K : PySem.W.Frag} {mg : Str → Option Value} {base : Heap} (T : Txt K mg base) : FnOk P w K mg base (L2.CX P w) 1 (He.ga K "_law_bag") T.fd_law_bag ["_law_script"] (spL K 1 sp_law_bag) := by
  apply ok_def (k := 0) T.F_law_bag sc_law_bag
  case hb =>
    intro cdv A outer s H E hr
    exact (dss_one (ds_ret (d_lstM (da_cons (d_callTy call_list_of adq_list rfl T.n_list (by decide +kernel) (da_cons (d_slice sl_list adq_slL (d_var 0) do_none (do_some d_int)) da_nil)) (da_cons d_int (da_cons d_int (da_cons (d_add d_int (d_callB call_len_seq adq_len rfl T.n_len (by decide +kernel) (da_cons (d_slice sl_list adq_slL (d_var 0) do_none (do_some d_int)) da_nil))) (da_cons d_int da_nil))))))))
  case hsp =>
    skip
    rintro ds cs Q Z ⟨ns, rfl, h⟩ _
    show ∀ p, p ∉ adr cs → Q (.opq (.ref p)) ((p, .lst [.lst (DL.cutD (ns.map D.int) none (some 63)), .int 0, .int 0, .int (9103 + ((DL.cutD (ns.map D.int) none (some 63)).length : Int)), .int 0]) :: cs)
    intro p hp
    have e : DL.cutD (ns.map D.int) none (some 63) = (ns.take (min 63 ns.length)).map D.int := by
      unfold DL.cutD
      simp [HT.sIx, List.map_take]
    have l : (DL.cutD (ns.map D.int) none (some 63)).length ≤ 63 := by
      rw [e, List.length_map, List.length_take]; omega
    refine h p _ hp ⟨ns.take (min 63 ns.length), 0, 0, 9103 + ((DL.cutD (ns.map D.int) none (some 63)).length : Int), 0, by rw [← e] <;> rfl, by omega, by omega, by omega⟩
def sp_law_get : DSp := fun ds cs P _ => ∃ (p : Addr) (most : Int), ds = [.opq (.ref p), .int most] ∧ 0 < most ∧ most < 2 ^ 60 ∧ BagIn p cs ∧ ∀ r cs', 0 ≤ r → r < most → BagStep p cs cs' → P (.int r) cs'
theorem r_law_get {p : Addr} {m : Int} {cs : Cs} {P : DP} {Z : XZ} (m0 : 0 < m) (m1 : m < 2 ^ 60) (hb : BagIn p cs) (h : ∀ r cs', 0 ≤ r → r < m → BagStep p cs cs' → P (.int r) cs') : sp_law_get [.opq (.ref p), .int m] cs P Z := ⟨p, m, rfl, m0, m1, hb, h⟩
theorem sc_law_get : FnScope ["_law_bag_here", "_law_most", "_law_cell", "_law_got", "_law_before"] ["_law_bag_here", "_law_most"] (defScope s_law_get) := ⟨rfl, rfl, rfl, by decide +kernel, rfl, by decide +kernel, by decide +kernel⟩
theorem ok_law_get {P : Program} {w : World} {K : PySem.W.Frag} {mg : Str → Option Value} {base : Heap} (T : Txt K mg base) : FnOk P w K mg base (L2.CX P w) 1 (He.ga K "_law_get") T.fd_law_get ["_law_bag_here", "_law_most"] (spL K 2 sp_law_get) := by
  apply ok_def (k := 0) T.F_law_get sc_law_get
  case hb =>
    intro cdv A outer s H E hr
    exact (dss_cons (ds_if (dt_w (dw_and (dt_lt (d_ixM (d_var 0) d_int) (d_var 1)) (dw_and1 (dt_lt (d_ixM (d_var 0) d_int) (d_callB call_len_seq adq_len rfl T.n_len (by decide +kernel) (da_cons (d_ixM (d_var 0) d_int) da_nil)))))) (dss_cons (ds_set (i := 2) sc_law_get.nd rfl (Or.inl rfl) (d_sub_ix (d_ixM (d_var 0) d_int) (d_ixM (d_var 0) d_int)))
      (dss_cons (ds_setix (d_add (d_ixM (d_var 0) d_int) d_int) (d_var 0) d_int)
      (dss_cons (ds_setix (d_if (dt_ge (d_var 2) (d_pow d_int d_int)) (d_sub (d_var 2) (d_pow d_int d_int)) d_int) (d_var 0) d_int)
      (dss_one (ds_setix (d_mod (d_add (d_add (d_mul (d_ixM (d_var 0) d_int) d_int) (d_mul (d_var 2) d_int)) (d_mul d_int (d_ixM (d_var 0) d_int))) d_int) (d_var 0) d_int))))) dss_nil)
      (dss_cons (ds_if (dt_ge (d_ixM (d_var 0) d_int) (d_var 1)) (dss_cons (ds_set (i := 3) sc_law_get.nd rfl (Or.inl rfl) (d_mod (d_ixM (d_var 0) d_int) (d_var 1)))
      (dss_cons (ds_setix (d_fdiv (d_ixM (d_var 0) d_int) (d_var 1)) (d_var 0) d_int)
      (dss_one (ds_ret (d_var 3))))) dss_nil)
      (dss_cons (ds_setix (d_add (d_ixM (d_var 0) d_int) d_int) (d_var 0) d_int)
      (dss_cons (ds_set (i := 4) sc_law_get.nd rfl (Or.inl rfl) (d_ixM (d_var 0) d_int))
      (dss_cons (ds_setix (d_mod (d_add (d_add (d_add (d_mul (d_var 4) (d_var 4)) (d_mul d_int (d_var 4))) (d_mul d_int (d_ixM (d_var 0) d_int))) d_int) d_int) (d_var 0) d_int)
      (dss_one (ds_ret (d_mod (d_add (d_fdiv (d_ixM (d_var 0) d_int) d_int) (d_mul (d_fdiv (d_var 4) d_int) d_int)) (d_var 1)))))))))
  case hsp =>
    skip
    rintro ds cs Q Z ⟨p, most, rfl, m0, m1, ⟨b, hl, cells, k, rest, seed, cnt, rfl, h0, h1, h2⟩, hh⟩ _
    have h : ∀ r b, 0 ≤ r → r < most → BagOk b → Q (.int r) (put p b cs) := fun r b x1 x2 x3 => hh r _ x1 x2 ⟨⟨b, look_put hl, x3⟩, b, rfl⟩
    show (_ : WS) (finD Q Z) [some _, some _, none, none, none] cs
    have dv := divOk m0 m1
    refine r_key (N := fun ρ' cs' => ∃ (c : Option D) (k1 : Nat) (rest1 seed1 : Int), ρ' = [some (.opq (.ref p)), some (.int most), c, none, none] ∧ look p cs' = some (.lst [.lst (cells.map D.int), .int (k1 : Int), .int rest1, .int seed1, .int cnt]) ∧ 0 ≤ rest1 ∧ 0 ≤ seed1 ∧ seed1 < 2147483629 ∧ ∀ r b, 0 ≤ r → r < most → BagOk b → Q (.int r) (put p b cs')) ?_ (fun nx key => ?_)
    · rintro ρ' cs' ⟨c, k1, rest1, seed1, rfl, hl', a0, a1, a2, hq⟩
      walk_at "go"
      refine ⟨fun hk => ?_, fun hk => ?_⟩
      · walk_at "go"
        exact hq _ _ (Int.emod_nonneg _ (by omega)) (Int.emod_lt_of_pos _ m0) ⟨cells, k1, rest1 / most, seed1, cnt, rfl, Int.ediv_nonneg a0 (by omega), a1, a2⟩
      · have hs : seed1.natAbs < 2 ^ 64 := by omega
        walk_at "go"
        show Q _ (put p _ (put p _ cs'))
        rw [put_put]
        refine hq _ _ (Int.emod_nonneg _ (by omega)) (Int.emod_lt_of_pos _ m0) ⟨cells, k1, rest1, _, cnt + 1, rfl, a0, Int.emod_nonneg _ (by decide), Int.emod_lt_of_pos _ (by decide)⟩
    · walk_at "go"
      refine ⟨fun hk => ?_, fun hk => ?_⟩
      · walk_at "go"
        refine ⟨fun hk2 => ?_, fun hk2 => ?_⟩
        · have hlen : (k : Int) < (cells.length : Int) := by simpa using decT hk2
          have hat : atD (cells.map D.int) (k : Int) = some (.int (cells[k]'(by omega))) := by
            refine atI_nat ?_
            rw [List.getElem?_map, List.getElem?_eq_getElem (by omega)]
            rfl
          walk_at "go"
          refine r_ixL hat ?_
          generalize cells[k]'(by omega) = cell
          walk_at "go"
          refine ⟨fun hk3 => ?_, fun hk3 => ?_⟩
          · have hc := decT hk3
            walk_at "go"
            refine key _ _ ⟨_, k + 1, _, _, rfl, look_put (look_put (look_put hl)), ?_, Int.emod_nonneg _ (by decide), Int.emod_lt_of_pos _ (by decide), fun r b x1 x2 x3 => ?_⟩
            · show (0 : Int) ≤ cell - 10 ^ 18
              have : (10 : Int) ^ 18 ≤ cell := hc
              omega
            · rw [put_put, put_put, put_put]
              exact h r b x1 x2 x3
          · walk_at "go"
            refine key _ _ ⟨_, k + 1, _, _, rfl, look_put (look_put (look_put hl)), Int.le_refl _, Int.emod_nonneg _ (by decide), Int.emod_lt_of_pos _ (by decide), fun r b x1 x2 x3 => ?_⟩
            rw [put_put, put_put, put_put]
            exact h r b x1 x2 x3
        · walk_at "go"
          exact key _ _ ⟨none, k, rest, seed, rfl, hl, h0, h1, h2, h⟩
      · walk_at "go"
        exact key _ _ ⟨none, k, rest, seed, rfl, hl, h0, h1, h2, h⟩
local macro_rules | `(tactic| walk_at "cl") => `(tactic| (first | ((with_reducible apply r_law_get); (walk_at "in"); (walk_at "in"); (walk_at "bg"))))
def sp_law_weight : DSp := fun ds cs P _ => ∃ (p : Addr) (k : Int), ds = [.opq (.ref p), .int k] ∧ BagIn p cs ∧ ∀ w cs', 1 ≤ w → w ≤ 400000 → BagStep p cs cs' → P (.int w) cs'
theorem sc_law_weight : FnScope ["_law_bag_here", "_law_kind"] ["_law_bag_here", "_law_kind"] (defScope s_law_weight) := ⟨rfl, rfl, rfl, by decide +kernel, rfl, by decide +kernel, by decide +kernel⟩
theorem ok_law_weight {P : Program} {w : World} {K : PySem.W.Frag} {mg : Str → Option Value} {base : Heap} (T : Txt K mg base) : FnOk P w K mg base (L2.CX P w) 2 (He.ga K "_law_weight") T.fd_law_weight ["_law_bag_here", "_law_kind"] (spL K 2 sp_law_weight) := by
  apply ok_def (k := 1) T.F_law_weight sc_law_weight
  case hb =>
    intro cdv A outer s H E hr
    exact (dss_cons (ds_if (dt_eq hr.units (d_var 1) d_int) (dss_one (ds_ret (d_add d_int (d_callN (ok_law_get T) (hr.mono (by decide)) rfl T.g_law_get T.F_law_get.kp (b_law_get T) takesD (da_cons (d_var 0) (da_cons d_int da_nil)))))) dss_nil)
      (dss_cons (ds_if (dt_eq hr.units (d_var 1) d_int) (dss_one (ds_ret (d_add d_int (d_callN (ok_law_get T) (hr.mono (by decide)) rfl T.g_law_get T.F_law_get.kp (b_law_get T) takesD (da_cons (d_var 0) (da_cons d_int da_nil)))))) dss_nil)
      (dss_cons (ds_if (dt_eq hr.units (d_var 1) d_int) (dss_one (ds_ret d_int)) dss_nil)
      (dss_one (ds_ret (d_sub_ix (d_lst (da_cons d_int (da_cons d_int (da_cons d_int (da_cons d_int (da_cons d_int da_nil)))))) (d_callN (ok_law_get T) (hr.mono (by decide)) rfl T.g_law_get T.F_law_get.kp (b_law_get T) takesD (da_cons (d_var 0) (da_cons d_int da_nil)))))))))
  case hsp =>
    skip
    rintro ds cs Q Z ⟨p, k, rfl, hb, h⟩ _
    show (_ : WS) (finD Q Z) [some _, some _] cs
    walk_at "go"
    refine ⟨fun _ => ?_, fun _ => ?_⟩
    · walk_at "go"
      refine ⟨p, 5, rfl, by decide, by decide, hb, fun g cs1 g0 g1 st => ?_⟩
      walk_at "go"
      exact h _ _ (by omega) (by omega) st
    walk_at "go"
    refine ⟨fun _ => ?_, fun _ => ?_⟩
    · walk_at "go"
      refine ⟨p, 400000, rfl, by decide, by decide, hb, fun g cs1 g0 g1 st => ?_⟩
      walk_at "go"
      exact h _ _ (by omega) (by omega) st
    walk_at "go"
    refine ⟨fun _ => ?_, fun _ => ?_⟩
    · walk_at "go"
      exact h _ _ (by decide) (by decide) (BagStep.refl hb)
    walk_at "go"
    refine ⟨p, 5, rfl, by decide, by decide, hb, fun g cs1 g0 g1 st => ?_⟩
    have hg : g = 0 ∨ g = 1 ∨ g = 2 ∨ g = 3 ∨ g = 4 := by omega
    rcases hg with rfl | rfl | rfl | rfl | rfl
    all_goals
      walk_at "go"
      exact h _ _ (by decide) (by decide) st
def sp_law_weights : DSp := fun ds cs P _ => ∃ (p : Addr) (m : Int), ds = [.opq (.ref p), .int m] ∧ 1 ≤ m ∧ m ≤ 12 ∧ BagIn p cs ∧ ∀ ws cs', WtOk ws → (ws.length : Int) ≤ m → BagStep p cs cs' → P (.lst (ws.map D.int)) cs'
theorem r_law_weights {p : Addr} {m : Int} {cs : Cs} {P : DP} {Z : XZ} (m0 : 1 ≤ m) (m1 : m ≤ 12) (hb : BagIn p cs) (h : ∀ ws cs', WtOk ws → (ws.length : Int) ≤ m → BagStep p cs cs' → P (.lst (ws.map D.int)) cs') : sp_law_weights [.opq (.ref p), .int m] cs P Z := ⟨p, m, rfl, m0, m1, hb, h⟩
theorem sc_law_weights : FnScope ["_law_bag_here", "_law_most", "_law_many", "_law_kind", "_law_k"] ["_law_bag_here", "_law_most"] (defScope s_law_weights) := ⟨rfl, rfl, rfl, by decide +kernel, rfl, by decide +kernel, by decide +kernel⟩
theorem ok_law_weights {P : Program} {w : World} {K : PySem.W.Frag} {mg : Str → Option Value} {base : Heap} (T : Txt K mg base) : FnOk P w K mg base (L2.CX P w) 3 (He.ga K "_law_weights") T.fd_law_weights ["_law_bag_here", "_law_most"] (spL K 2 sp_law_weights) := by
  apply ok_def (k := 2) T.F_law_weights sc_law_weights
  case hb =>
    intro cdv A outer s H E hr
    exact (dss_cons (ds_asg (d_tup (da_cons (d_add d_int (d_callN (ok_law_get T) (hr.mono (by decide)) rfl T.g_law_get T.F_law_get.kp (b_law_get T) takesD (da_cons (d_var 0) (da_cons (d_var 1) da_nil)))) (da_cons (d_callN (ok_law_get T) (hr.mono (by decide)) rfl T.g_law_get T.F_law_get.kp (b_law_get T) takesD (da_cons (d_var 0) (da_cons d_int da_nil))) da_nil))) (dg_tup (n := 2) rfl (dgs_cons (dg_name (i := 2) sc_law_weights.nd rfl (Or.inl rfl)) (dgs_cons (dg_name (i := 3) sc_law_weights.nd rfl (Or.inr rfl)) dgs_nil))))
      (dss_one (ds_ret (d_lc rfl sc_law_weights.nd (di_range1 rfl T.n_range (da_cons (d_var 2) da_nil)) (blkOk_by (own := [("_law_k", 4)]) (N := ["_law_bag_here", "_law_most", "_law_many", "_law_kind", "_law_k"]) (sc := defScope s_law_weights) (by decide +kernel)) (gok_name (by decide)) (fun _ _ _ _ _ => (pg_name (i := 4) sc_law_weights.nd rfl (Or.inl rfl))) (fun _ _ _ _ _ => dts_nil) (fun _ _ _ _ _ => (d_callN (ok_law_weight T) (hr.mono (by decide)) rfl T.g_law_weight T.F_law_weight.kp (b_law_weight T) takes0 (da_cons (d_var 0) (da_cons (d_if (dt_lt (d_var 3) d_int) (d_var 3) (d_callN (ok_law_get T) (hr.mono (by decide)) rfl T.g_law_get T.F_law_get.kp (b_law_get T) takes0 (da_cons (d_var 0) (da_cons d_int da_nil)))) da_nil))))))))
  case hsp =>
    skip
    rintro ds cs Q Z ⟨p, m, rfl, m0, m1, hb, h⟩ _
    show (_ : WS) (finD Q Z) [some _, some _, none, none, none] cs
    walk_at "go"
    refine ⟨p, m, rfl, by omega, by omega, hb, fun g cs1 g0 g1 st => ?_⟩
    walk_at "go"
    refine ⟨p, 5, rfl, by decide, by decide, st.bag, fun k cs2 k0 k1 st2 => ?_⟩
    walk_at "go"
    refine ⟨⟨by omega, by omega⟩, by rw [rng_len]; omega, ?_⟩
    refine r_comp0 (fun i acc cs' => ∃ ws : List Int, acc = ws.map D.int ∧ ws.length = i ∧ (∀ w ∈ ws, 1 ≤ w ∧ w ≤ 400000) ∧ BagStep p cs cs') ⟨[], rfl, rfl, fun _ h => (nomatch h), st.trans st2⟩ ?_ ?_
    · rintro i d acc cs' N hd ⟨ws, rfl, hl, hr, st3⟩ hN
      have fin : ∀ w cs'', 1 ≤ w → w ≤ 400000 → BagStep p cs' cs'' → N (ws.map D.int ++ [.int w]) cs'' := fun w cs'' w0 w1 st4 =>
        hN _ _ ⟨ws ++ [w], by rw [List.map_append]; rfl, by rw [List.length_append, hl]; rfl, fun x hx => by
          rcases List.mem_append.mp hx with hx | hx
          · exact hr x hx
          · rw [List.mem_singleton.mp hx]; exact ⟨w0, w1⟩, st3.trans st4⟩
      walk_at "go"
      refine ⟨fun hk => ?_, fun hk => ?_⟩
      · walk_at "go"
        exact ⟨p, k, rfl, st3.bag, fun w cs'' w0 w1 st4 => fin w cs'' w0 w1 st4⟩
      · walk_at "go"
        refine ⟨p, 4, rfl, by decide, by decide, st3.bag, fun g2 cs4 _ _ st4 => ?_⟩
        walk_at "go"
        exact ⟨p, g2, rfl, st4.bag, fun w cs'' w0 w1 st5 => fin w cs'' w0 w1 (st4.trans st5)⟩
    · rintro acc cs' ⟨ws, rfl, hl, hr, st3⟩
      rw [rng_len] at hl
      exact h ws cs' ⟨by omega, by omega, hr⟩ (by omega) st3
local macro_rules | `(tactic| walk_at "cl") => `(tactic| (first | ((with_reducible apply r_law_weights); (walk_at "in"); (walk_at "in"); (walk_at "bg"))))
def sp_law_parted : DSp := fun ds cs P _ => ∃ (xs : List D) (zs : List Int) (sz : D), ds = [.lst xs, sz] ∧ (sz = .tup (zs.map D.int) ∨ sz = .lst (zs.map D.int)) ∧ xs.length ≤ 1000 ∧ SzOk zs xs.length ∧ P (.lst ((DL.rowsOf xs zs).map D.lst)) cs
theorem r_law_parted {ws : List Int} {zs : List Int} {cs : Cs} {P : DP} {Z : XZ} (hx : ws.length ≤ 1000) (hz : SzOk zs ws.length) (h : P (.lst ((DL.rowsOf ws zs).map fun r => D.lst (r.map D.int))) cs) : sp_law_parted [.lst (ws.map D.int), .tup (zs.map D.int)] cs P Z :=
  ⟨_, zs, _, rfl, .inl rfl, by rw [List.length_map]; exact hx, by rw [List.length_map]; exact hz, by rw [rowsOf_map, List.map_map]; exact h⟩
theorem r_law_partedL {ws : List Int} {zs : List Int} {cs : Cs} {P : DP} {Z : XZ} (hx : ws.length ≤ 1000) (hz : SzOk zs ws.length) (h : P (.lst ((DL.rowsOf ws zs).map fun r => D.lst (r.map D.int))) cs) : sp_law_parted [.lst (ws.map D.int), .lst (zs.map D.int)] cs P Z :=
  ⟨_, zs, _, rfl, .inr rfl, by rw [List.length_map]; exact hx, by rw [List.length_map]; exact hz, by rw [rowsOf_map, List.map_map]; exact h⟩
theorem sc_law_parted : FnScope ["_law_things_now", "_law_sizes_here", "_law_found", "_law_begin", "_law_size"] ["_law_things_now", "_law_sizes_here"] (defScope s_law_parted) := ⟨rfl, rfl, rfl, by decide +kernel, rfl, by decide +kernel, by decide +kernel⟩
theorem ok_law_parted {P : Program} {w : World} {K : PySem.W.Frag} {mg : Str → Option Value} {base : Heap} (T : Txt K mg base) : FnOk P w K mg base (L2.CX P w) 1 (He.ga K "_law_parted") T.fd_law_parted ["_law_things_now", "_law_sizes_here"] (spL K 2 sp_law_parted) := by
  apply ok_def (k := 0) T.F_law_parted sc_law_parted
  case hb =>
    intro cdv A outer s H E hr
    exact (dss_cons (ds_set (i := 2) sc_law_parted.nd rfl (Or.inl rfl) (d_lstM da_nil))
      (dss_cons (ds_set (i := 3) sc_law_parted.nd rfl (Or.inl rfl) d_int)
      (dss_cons (ds_for passD rfl (di_any (d_var 1)) (dg_name (i := 4) sc_law_parted.nd rfl (Or.inl rfl)) (dss_cons (ds_expr (d_append (d_var 2) (da_cons (d_callTy call_list_of adq_list rfl T.n_list (by decide +kernel) (da_cons (d_slice sl_list adq_slL (d_var 0) (do_some (d_var 3)) (do_some (d_add (d_var 3) (d_var 4)))) da_nil)) da_nil)))
      (dss_one (ds_set (i := 3) sc_law_parted.nd rfl (Or.inl rfl) (d_add (d_var 3) (d_var 4))))))
      (dss_one (ds_ret (d_frz (d_var 2)))))))
  case hsp =>
    skip
    rintro ds cs Q Z ⟨xs, zs, sz, rfl, hsz, hx, hz, h⟩ _
    show (_ : WS) (finD Q Z) [some _, some _, none, none, none] cs
    walk_at "GO"
    intro p hp
    rcases hsz with rfl | rfl
    all_goals
      walk_at "GO"
      refine r_loop0 (fun i ρ cs' => ∃ (c1 c4 : Option D), ρ = [some (.lst xs), c1, some (.opq (.ref p)), some (.int (preS zs i)), c4] ∧ cs' = (p, .lst ((List.range i).map fun j => D.lst (rowAt xs zs j))) :: cs) ⟨_, _, by rw [preS_zero]; exact rfl, rfl⟩ ?_ ?_
      · rintro i d ρ cs' N hd ⟨c1, c4, rfl, rfl⟩ hN
        obtain ⟨z, hzz, rfl⟩ := get_map_int hd
        have h1 := preS_nonneg hz.pos i
        have h2 := hz.pre_le (i + 1)
        have h3 := hz.pos z (List.mem_of_getElem? hzz)
        rw [preS_succ hzz] at h2
        walk_at "GO"
        rw [cutD_int h1 (by omega) h2]
        refine r_appendH (by rw [List.length_map, List.length_range]; have := hz.len; have := (List.getElem?_eq_some_iff.mp hzz).1; omega) ?_
        walk_at "GO"
        rw [← preS_succ hzz]
        refine hN _ _ ⟨_, _, rfl, ?_⟩
        rw [List.range_succ, List.map_append]
        have e : rowAt xs zs i = (xs.drop (preS zs i).toNat).take ((preS zs i + z) - preS zs i).toNat := by
          unfold rowAt
          rw [getD_of hzz]
          congr 1
          omega
        rw [← preS_succ hzz] at e
        rw [← e]
        rfl
      · rintro ρ cs' ⟨c1, c4, rfl, rfl⟩
        walk_at "GO"
        rw [List.length_map]
        unfold DL.rowsOf at h
        rw [List.map_map] at h
        exact h
local macro_rules | `(tactic| walk_at "cl") => `(tactic| (first | ((with_reducible apply r_law_parted); (walk_at "in"); (assumption)) | ((with_reducible apply r_law_partedL); (walk_at "in"); (assumption))))
def sp_law_gcd : DSp := fun ds cs P _ => ∃ a b : Nat, ds = [.int (a : Int), .int (b : Int)] ∧ P (.int (Nat.gcd a b : Int)) cs
theorem sc_law_gcd : FnScope ["_law_one", "_law_other"] ["_law_one", "_law_other"] (defScope s_law_gcd) := ⟨rfl, rfl, rfl, by decide +kernel, rfl, by decide +kernel, by decide +kernel⟩
theorem ok_law_gcd {P : Program} {w : World} {K : PySem.W.Frag} {mg : Str → Option Value} {base : Heap} (T : Txt K mg base) : FnOk P w K mg base (L2.CX P w) 1 (He.ga K "_law_gcd") T.fd_law_gcd ["_law_one", "_law_other"] (spL K 2 sp_law_gcd) := by
  apply ok_def (k := 0) T.F_law_gcd sc_law_gcd
  case hb =>
    intro cdv A outer s H E hr
    exact (dss_cons (ds_while passD (dt_gt (d_var 1) d_int) (dss_one (ds_par (i := 0) (j := 1) rfl sc_law_gcd.nd rfl rfl (by decide) rfl rfl (da_cons (d_var 1) (da_cons (d_mod (d_var 0) (d_var 1)) da_nil)))))
      (dss_one (ds_ret (d_var 0))))
  case hsp =>
    skip
    rintro ds cs Q Z ⟨a, b, rfl, h⟩ _
    show (_ : WS) (finD Q Z) [some _, some _] cs
    walk_at "go"
    refine r_while (fun m ρ cs' => ∃ a' b' : Nat, ρ = [some (.int (a' : Int)), some (.int (b' : Int))] ∧ m = b' ∧ cs' = cs ∧ Nat.gcd a' b' = Nat.gcd a b) ⟨b, a, b, rfl, rfl, rfl, rfl⟩ ?_
    rintro m ρ cs' N ⟨a', b', rfl, hm, rfl, hg⟩ hN
    walk_at "go"
    refine ⟨fun hk => ?_, fun hk => ?_⟩
    · have hb : (b' : Int) ≠ 0 := by have := decT hk; omega
      have hb0 : (0 : Int) < b' := by omega
      walk_at "go"
      refine hN (a' % b') _ _ (by rw [hm]; exact Nat.mod_lt _ (by omega)) ⟨b', a' % b', rfl, rfl, rfl, ?_⟩
      rw [← hg, Nat.gcd_comm b', ← Nat.gcd_rec, Nat.gcd_comm]
    · have hb : (b' : Int) = 0 := by have := decF hk; omega
      have hb0 : b' = 0 := by omega
      rw [hb0]
      walk_at "go"
      rw [← hg, hb0, Nat.gcd_zero_right] at h
      exact h
def sp_law_part : DSp := fun ds cs P _ => ∃ a b : Int, ds = [.int a, .int b] ∧ b ≠ 0 ∧ b.natAbs < 2 ^ 9000 ∧ P (dR (Rat.divInt a b)) cs
theorem r_law_part {a b : Int} {cs : Cs} {P : DP} {Z : XZ} (b0 : b ≠ 0) (hb : b.natAbs < 2 ^ 9000) (h : P (dR (Rat.divInt a b)) cs) : sp_law_part [.int a, .int b] cs P Z := ⟨a, b, rfl, b0, hb, h⟩
theorem sc_law_part : FnScope ["_law_above", "_law_below", "_law_by"] ["_law_above", "_law_below"] (defScope s_law_part) := ⟨rfl, rfl, rfl, by decide +kernel, rfl, by decide +kernel, by decide +kernel⟩
theorem ok_law_part {P : Program} {w : World} {K : PySem.W.Frag} {mg : Str → Option Value} {base : Heap} (T : Txt K mg base) : FnOk P w K mg base (L2.CX P w) 2 (He.ga K "_law_part") T.fd_law_part ["_law_above", "_law_below"] (spL K 2 sp_law_part) := by
  apply ok_def (k := 1) T.F_law_part sc_law_part
  case hb =>
    intro cdv A outer s H E hr
    exact (dss_cons (ds_if (dt_lt (d_var 1) d_int) (dss_one (ds_par (i := 0) (j := 1) rfl sc_law_part.nd rfl rfl (by decide) rfl rfl (da_cons (d_sub d_int (d_var 0)) (da_cons (d_sub d_int (d_var 1)) da_nil)))) dss_nil)
      (dss_cons (ds_set (i := 2) sc_law_part.nd rfl (Or.inl rfl) (d_callN (ok_law_gcd T) (hr.mono (by decide)) rfl T.g_law_gcd T.F_law_gcd.kp (b_law_gcd T) takesD (da_cons (d_callB call_abs adq_abs rfl T.n_abs (by decide +kernel) (da_cons (d_var 0) da_nil)) (da_cons (d_var 1) da_nil))))
      (dss_one (ds_ret (d_tup (da_cons (d_fdiv (d_var 0) (d_var 2)) (da_cons (d_fdiv (d_var 1) (d_var 2)) da_nil)))))))
  case hsp =>
    skip
    rintro ds cs Q Z ⟨a, b, rfl, hb, hs, h⟩ _
    show (_ : WS) (finD Q Z) [some _, some _, none] cs
    refine r_key (N := fun ρ' cs' => ∃ a' b' : Int, ρ' = [some (.int a'), some (.int b'), none] ∧ cs' = cs ∧ 0 < b' ∧ b'.natAbs < 2 ^ 9000 ∧ Rat.divInt a' b' = Rat.divInt a b) ?_ (fun nx key => ?_)
    · rintro ρ' cs' ⟨a', b', rfl, rfl, hp, hz, he⟩
      walk_at "go"
      rw [abs_nat]
      have hn : b' = (b'.natAbs : Int) := by omega
      refine ⟨a'.natAbs, b'.natAbs, by rw [← hn], ?_⟩
      have g := gcd_ok (a := a'.natAbs) (b := b'.natAbs) (by omega) hz
      obtain ⟨e1, e2⟩ := part_pos a' b' hp
      walk_at "go"
      show Q (.tup [.int (a' / _), .int (b' / _)]) cs'
      rw [e1, e2, he]
      exact h
    · walk_at "go"
      refine ⟨fun hk2 => ?_, fun hk2 => ?_⟩
      · have hlt := decT hk2
        walk_at "go"
        exact key _ _ ⟨0 - a, 0 - b, rfl, rfl, by omega, by rw [Int.zero_sub, Int.natAbs_neg]; exact hs, by rw [Int.zero_sub, Int.zero_sub]; exact part_neg a b⟩
      · have hlt := decF hk2
        walk_at "go"
        exact key _ _ ⟨a, b, rfl, rfl, by omega, hs, rfl⟩
local macro_rules | `(tactic| walk_at "cl") => `(tactic| (first | ((with_reducible apply r_law_part); (walk_at "in"); (walk_at "p9"))))
def sp_law_plus : DSp := fun ds cs P _ => ∃ x y : Rat, ds = [dR x, dR y] ∧ Sz 4000 x ∧ Sz 4000 y ∧ P (dR (x + y)) cs
theorem r_law_plus {x y : Rat} {cs : Cs} {P : DP} {Z : XZ} (hx : Sz 4000 x) (hy : Sz 4000 y) (h : P (dR (x + y)) cs) : sp_law_plus [dR x, dR y] cs P Z := ⟨x, y, rfl, hx, hy, h⟩
theorem sc_law_plus : FnScope ["_law_one", "_law_other"] ["_law_one", "_law_other"] (defScope s_law_plus) := ⟨rfl, rfl, rfl, by decide +kernel, rfl, by decide +kernel, by decide +kernel⟩
theorem ok_law_plus {P : Program} {w : World} {K : PySem.W.Frag} {mg : Str → Option Value} {base : Heap} (T : Txt K mg base) : FnOk P w K mg base (L2.CX P w) 3 (He.ga K "_law_plus") T.fd_law_plus ["_law_one", "_law_other"] (spL K 2 sp_law_plus) := by
  apply ok_def (k := 2) T.F_law_plus sc_law_plus
  case hb =>
    intro cdv A outer s H E hr
    exact (dss_one (ds_ret (d_callN (ok_law_part T) (hr.mono (by decide)) rfl T.g_law_part T.F_law_part.kp (b_law_part T) takesD (da_cons (d_add (d_mul (d_sub_ix (d_var 0) d_int) (d_sub_ix (d_var 1) d_int)) (d_mul (d_sub_ix (d_var 1) d_int) (d_sub_ix (d_var 0) d_int))) (da_cons (d_mul (d_sub_ix (d_var 0) d_int) (d_sub_ix (d_var 1) d_int)) da_nil)))))
  case hsp =>
    skip
    rintro ds cs Q Z ⟨x, y, rfl, hx, hy, h⟩ _
    show (_ : WS) (finD Q Z) [some _, some _] cs
    have m1 := hx.nd hy
    have m2 := hy.nd hx
    have m3 := hx.dd hy
    have m4 := hx.nn hy
    walk_at "go"
    exact ⟨_, _, rfl, Int.mul_ne_zero (den_ne x) (den_ne y), dd_ok hx hy (by decide), by rw [divInt_add]; exact h⟩
local macro_rules | `(tactic| walk_at "cl") => `(tactic| (first | ((with_reducible apply r_law_plus); (walk_at "sz"); (walk_at "sz"))))
def sp_law_times : DSp := fun ds cs P _ => ∃ x y : Rat, ds = [dR x, dR y] ∧ Sz 4000 x ∧ Sz 4000 y ∧ P (dR (x * y)) cs
theorem r_law_times {x y : Rat} {cs : Cs} {P : DP} {Z : XZ} (hx : Sz 4000 x) (hy : Sz 4000 y) (h : P (dR (x * y)) cs) : sp_law_times [dR x, dR y] cs P Z := ⟨x, y, rfl, hx, hy, h⟩
theorem sc_law_times : FnScope ["_law_one", "_law_other"] ["_law_one", "_law_other"] (defScope s_law_times) := ⟨rfl, rfl, rfl, by decide +kernel, rfl, by decide +kernel, by decide +kernel⟩
theorem ok_law_times {P : Program} {w : World} {K : PySem.W.Frag} {mg : Str → Option Value} {base : Heap} (T : Txt K mg base) : FnOk P w K mg base (L2.CX P w) 3 (He.ga K "_law_times") T.fd_law_times ["_law_one", "_law_other"] (spL K 2 sp_law_times) := by
  apply ok_def (k := 2) T.F_law_times sc_law_times
  case hb =>
    intro cdv A outer s H E hr
    exact (dss_one (ds_ret (d_callN (ok_law_part T) (hr.mono (by decide)) rfl T.g_law_part T.F_law_part.kp (b_law_part T) takesD (da_cons (d_mul (d_sub_ix (d_var 0) d_int) (d_sub_ix (d_var 1) d_int)) (da_cons (d_mul (d_sub_ix (d_var 0) d_int) (d_sub_ix (d_var 1) d_int)) da_nil)))))
  case hsp =>
    skip
    rintro ds cs Q Z ⟨x, y, rfl, hx, hy, h⟩ _
    show (_ : WS) (finD Q Z) [some _, some _] cs
    have m1 := hx.nd hy
    have m2 := hy.nd hx
    have m3 := hx.dd hy
    have m4 := hx.nn hy
    walk_at "go"
    exact ⟨_, _, rfl, Int.mul_ne_zero (den_ne x) (den_ne y), dd_ok hx hy (by decide), by rw [divInt_mul]; exact h⟩
local macro_rules | `(tactic| walk_at "cl") => `(tactic| (first | ((with_reducible apply r_law_times); (walk_at "sz"); (walk_at "sz"))))
def sp_law_split : DSp := fun ds cs P _ => ∃ (b : Bx) (ws : List Int) (dn : Bool), ds = [b.d, .lst (ws.map D.int), sideD dn] ∧ WOk ws ∧ b.Sz 1900 ∧ P (.lst ((splitB b ws dn).map Bx.d)) cs
theorem r_law_split {b : Bx} {ws : List Int} {dn : Bool} {cs : Cs} {P : DP} {Z : XZ} (hw : WOk ws) (hb : b.Sz 1900) (h : P (.lst ((splitB b ws dn).map Bx.d)) cs) : sp_law_split [b.d, .lst (ws.map D.int), sideD dn] cs P Z := ⟨b, ws, dn, rfl, hw, hb, h⟩
theorem sc_law_split : FnScope ["_law_box", "_law_weights_here", "_law_lean_here", "_law_left", "_law_top", "_law_wide", "_law_high", "_law_found", "_law_before", "_law_weight_here", "_law_begin", "_law_share"] ["_law_box", "_law_weights_here", "_law_lean_here"] (defScope s_law_split) := ⟨rfl, rfl, rfl, by decide +kernel, rfl, by decide +kernel, by decide +kernel⟩
theorem ok_law_split {P : Program} {w : World} {K : PySem.W.Frag} {mg : Str → Option Value} {base : Heap} (T : Txt K mg base) : FnOk P w K mg base (L2.CX P w) 4 (He.ga K "_law_split") T.fd_law_split ["_law_box", "_law_weights_here", "_law_lean_here"] (spL K 3 sp_law_split) := by
  apply ok_def (k := 3) T.F_law_split sc_law_split
  case hb =>
    intro cdv A outer s H E hr
    exact (dss_cons (ds_asg (d_var 0) (dg_tup (n := 4) rfl (dgs_cons (dg_name (i := 3) sc_law_split.nd rfl (Or.inl rfl)) (dgs_cons (dg_name (i := 4) sc_law_split.nd rfl (Or.inl rfl)) (dgs_cons (dg_name (i := 5) sc_law_split.nd rfl (Or.inl rfl)) (dgs_cons (dg_name (i := 6) sc_law_split.nd rfl (Or.inl rfl)) dgs_nil))))))
      (dss_cons (ds_set (i := 7) sc_law_split.nd rfl (Or.inl rfl) (d_lstM da_nil))
      (dss_cons (ds_set (i := 8) sc_law_split.nd rfl (Or.inl rfl) d_int)
      (dss_cons (ds_for passD rfl (di_list (d_var 1)) (dg_name (i := 9) sc_law_split.nd rfl (Or.inl rfl)) (dss_cons (ds_par (i := 10) (j := 11) rfl sc_law_split.nd rfl rfl (by decide) rfl rfl (da_cons (d_callN (ok_law_part T) (hr.mono (by decide)) rfl T.g_law_part T.F_law_part.kp (b_law_part T) takesD (da_cons (d_var 8) (da_cons (d_callB (cr_sumA rfl) adq_sumA rfl T.n_sum (by decide +kernel) (da_cons (d_var 1) da_nil)) da_nil))) (da_cons (d_callN (ok_law_part T) (hr.mono (by decide)) rfl T.g_law_part T.F_law_part.kp (b_law_part T) takesD (da_cons (d_var 9) (da_cons (d_callB (cr_sumA rfl) adq_sumA rfl T.n_sum (by decide +kernel) (da_cons (d_var 1) da_nil)) da_nil))) da_nil)))
      (dss_cons (ds_if (dt_eq hr.units (d_var 2) d_str) (dss_one (ds_expr (d_append (d_var 7) (da_cons (d_tup (da_cons (d_var 3) (da_cons (d_callN (ok_law_plus T) (hr.mono (by decide)) rfl T.g_law_plus T.F_law_plus.kp (b_law_plus T) takesD (da_cons (d_var 4) (da_cons (d_callN (ok_law_times T) (hr.mono (by decide)) rfl T.g_law_times T.F_law_times.kp (b_law_times T) takesD (da_cons (d_var 6) (da_cons (d_var 10) da_nil))) da_nil))) (da_cons (d_var 5) (da_cons (d_callN (ok_law_times T) (hr.mono (by decide)) rfl T.g_law_times T.F_law_times.kp (b_law_times T) takesD (da_cons (d_var 6) (da_cons (d_var 11) da_nil))) da_nil))))) da_nil)))) (dss_one (ds_expr (d_append (d_var 7) (da_cons (d_tup (da_cons (d_callN (ok_law_plus T) (hr.mono (by decide)) rfl T.g_law_plus T.F_law_plus.kp (b_law_plus T) takesD (da_cons (d_var 3) (da_cons (d_callN (ok_law_times T) (hr.mono (by decide)) rfl T.g_law_times T.F_law_times.kp (b_law_times T) takesD (da_cons (d_var 5) (da_cons (d_var 10) da_nil))) da_nil))) (da_cons (d_var 4) (da_cons (d_callN (ok_law_times T) (hr.mono (by decide)) rfl T.g_law_times T.F_law_times.kp (b_law_times T) takesD (da_cons (d_var 5) (da_cons (d_var 11) da_nil))) (da_cons (d_var 6) da_nil))))) da_nil)))))
      (dss_one (ds_set (i := 8) sc_law_split.nd rfl (Or.inl rfl) (d_add (d_var 8) (d_var 9)))))))
      (dss_one (ds_ret (d_frz (d_var 7))))))))
  case hsp =>
    skip
    rintro ds cs Q Z ⟨b, ws, dn, rfl, hw, hb, h⟩ _
    have hs := hw.sum_pos
    have hs2 := hw.sum
    show (_ : WS) (finD Q Z) [some _, some _, some _, none, none, none, none, none, none, none, none, none] cs
    unfold Bx.d dB
    walk_at "go"
    intro p hp
    walk_at "go"
    cases dn
    · refine r_loop0 (fun i ρ cs' => ∃ c0 c9 c10 c11, ρ = [c0, some (.lst (ws.map D.int)), some (sideD false), some (dR b.l), some (dR b.t), some (dR b.w), some (dR b.h), some (.opq (.ref p)), some (.int (preS ws i)), c9, c10, c11] ∧ cs' = (p, .lst ((List.range i).map fun j => (splitAt_ b ws false j).d)) :: cs) ⟨_, none, none, none, by rw [preS_zero]; exact rfl, rfl⟩ ?_ ?_
      · rintro i d ρ cs' N hd ⟨c0, c9, c10, c11, rfl, rfl⟩ hN
        obtain ⟨wt, hwt, rfl⟩ := get_map_int hd
        have hi : i < ws.length := (List.getElem?_eq_some_iff.mp hwt).1
        have f1 := Sz.frac (a := wt) (by have := hw.pos _ (List.mem_of_getElem? hwt); omega) (by have := mem_le_sum hw.pos hwt; omega) hs hs2
        have f2 := Sz.frac (preS_nonneg hw.pos i) (by have := preS_le hw.pos i; omega) hs hs2
        walk_at "go"
        refine ⟨ws, .inl rfl, ?_⟩
        walk_at "go"
        refine ⟨preS ws i, ws.sum, rfl, by omega, szlt hs hs2, ?_⟩
        walk_at "go"
        refine ⟨ws, .inl rfl, ?_⟩
        walk_at "go"
        refine ⟨wt, ws.sum, rfl, by omega, szlt hs hs2, ?_⟩
        walk_at "go"
        refine ⟨b.w, Rat.divInt (preS ws i) ws.sum, rfl, hb.w.mono (by decide), f2.mono (by decide), ?_⟩
        walk_at "go"
        refine ⟨b.l, b.w * Rat.divInt (preS ws i) ws.sum, rfl, hb.l.mono (by decide), (hb.w.mul f2).mono (by decide), ?_⟩
        walk_at "go"
        refine ⟨b.w, Rat.divInt wt ws.sum, rfl, hb.w.mono (by decide), f1.mono (by decide), ?_⟩
        walk_at "go"
        refine r_appendH (by rw [List.length_map, List.length_range]; have := hw.l1; omega) ?_
        walk_at "go"
        rw [← preS_succ hwt]
        refine hN _ _ ⟨_, _, _, _, rfl, ?_⟩
        have e2 : splitAt_ b ws false i = cutB b false (Rat.divInt (preS ws i) ws.sum) (Rat.divInt wt ws.sum) := by
          unfold splitAt_
          rw [List.getD_eq_getElem?_getD, hwt]; rfl
        rw [List.range_succ, List.map_append, List.map_cons, List.map_nil, e2]
        rfl
      · rintro ρ cs' ⟨c0, c9, c10, c11, rfl, rfl⟩
        walk_at "go"
        rw [List.length_map]
        have h2 := h
        unfold splitB at h2
        rw [List.map_map] at h2
        exact h2
    · refine r_loop0 (fun i ρ cs' => ∃ c0 c9 c10 c11, ρ = [c0, some (.lst (ws.map D.int)), some (sideD true), some (dR b.l), some (dR b.t), some (dR b.w), some (dR b.h), some (.opq (.ref p)), some (.int (preS ws i)), c9, c10, c11] ∧ cs' = (p, .lst ((List.range i).map fun j => (splitAt_ b ws true j).d)) :: cs) ⟨_, none, none, none, by rw [preS_zero]; exact rfl, rfl⟩ ?_ ?_
      · rintro i d ρ cs' N hd ⟨c0, c9, c10, c11, rfl, rfl⟩ hN
        obtain ⟨wt, hwt, rfl⟩ := get_map_int hd
        have hi : i < ws.length := (List.getElem?_eq_some_iff.mp hwt).1
        have f1 := Sz.frac (a := wt) (by have := hw.pos _ (List.mem_of_getElem? hwt); omega) (by have := mem_le_sum hw.pos hwt; omega) hs hs2
        have f2 := Sz.frac (preS_nonneg hw.pos i) (by have := preS_le hw.pos i; omega) hs hs2
        walk_at "go"
        refine ⟨ws, .inl rfl, ?_⟩
        walk_at "go"
        refine ⟨preS ws i, ws.sum, rfl, by omega, szlt hs hs2, ?_⟩
        walk_at "go"
        refine ⟨ws, .inl rfl, ?_⟩
        walk_at "go"
        refine ⟨wt, ws.sum, rfl, by omega, szlt hs hs2, ?_⟩
        walk_at "go"
        refine ⟨b.h, Rat.divInt (preS ws i) ws.sum, rfl, hb.h.mono (by decide), f2.mono (by decide), ?_⟩
        walk_at "go"
        refine ⟨b.t, b.h * Rat.divInt (preS ws i) ws.sum, rfl, hb.t.mono (by decide), (hb.h.mul f2).mono (by decide), ?_⟩
        walk_at "go"
        refine ⟨b.h, Rat.divInt wt ws.sum, rfl, hb.h.mono (by decide), f1.mono (by decide), ?_⟩
        walk_at "go"
        refine r_appendH (by rw [List.length_map, List.length_range]; have := hw.l1; omega) ?_
        walk_at "go"
        rw [← preS_succ hwt]
        refine hN _ _ ⟨_, _, _, _, rfl, ?_⟩
        have e2 : splitAt_ b ws true i = cutB b true (Rat.divInt (preS ws i) ws.sum) (Rat.divInt wt ws.sum) := by
          unfold splitAt_
          rw [List.getD_eq_getElem?_getD, hwt]; rfl
        rw [List.range_succ, List.map_append, List.map_cons, List.map_nil, e2]
        rfl
      · rintro ρ cs' ⟨c0, c9, c10, c11, rfl, rfl⟩
        walk_at "go"
        rw [List.length_map]
        have h2 := h
        unfold splitB at h2
        rw [List.map_map] at h2
        exact h2
local macro_rules | `(tactic| walk_at "cl") => `(tactic| (first | ((with_reducible apply r_law_split); (walk_at "wk"); (walk_at "sz"))))
def sp_law_turned_lean : DSp := fun ds cs P _ => ∃ dn, ds = [sideD dn] ∧ P (sideD !dn) cs
theorem r_law_turned_lean {dn : Bool} {cs : Cs} {P : DP} {Z : XZ} (h : P (sideD !dn) cs) : sp_law_turned_lean [sideD dn] cs P Z := ⟨dn, rfl, h⟩
theorem sc_law_turned_lean : FnScope ["_law_lean_here"] ["_law_lean_here"] (defScope s_law_turned_lean) := ⟨rfl, rfl, rfl, by decide +kernel, rfl, by decide +kernel, by decide +kernel⟩
theorem ok_law_turned_lean {P : Program} {w : World} {K : PySem.W.Frag} {mg : Str → Option Value} {base : Heap} (T : Txt K mg base) : FnOk P w K mg base (L2.CX P w) 1 (He.ga K "_law_turned_lean") T.fd_law_turned_lean ["_law_lean_here"] (spL K 1 sp_law_turned_lean) := by
  apply ok_def (k := 0) T.F_law_turned_lean sc_law_turned_lean
  case hb =>
    intro cdv A outer s H E hr
    exact (dss_one (ds_ret (d_if (dt_eq hr.units (d_var 0) d_str) d_str d_str)))
  case hsp =>
    skip
    rintro ds cs Q Z ⟨dn, rfl, h⟩ _
    show (_ : WS) (finD Q Z) [some _] cs
    walk_at "GO"
    cases dn
    · walk_at "GO"
      exact h
    · walk_at "GO"
      exact h
local macro_rules | `(tactic| walk_at "cl") => `(tactic| (first | (with_reducible refine r_law_turned_lean ?_)))
def sp_law_laid : DSp := fun ds cs P _ => ∃ (b : Bx) (ws zs : List Int) (dn : Bool) (sz : D), ds = [b.d, .lst (ws.map D.int), sz, sideD dn] ∧ (sz = .tup (zs.map D.int) ∨ sz = .lst (zs.map D.int)) ∧ WOk ws ∧ SzOk zs ws.length ∧ b.Sz 800 ∧ P (.lst ((laidB b ws zs dn).map Bx.d)) cs
theorem r_law_laid {b : Bx} {ws zs : List Int} {dn : Bool} {cs : Cs} {P : DP} {Z : XZ} (hw : WOk ws) (hz : SzOk zs ws.length) (hs : b.Sz 800) (h : P (.lst ((laidB b ws zs dn).map Bx.d)) cs) : sp_law_laid [b.d, .lst (ws.map D.int), .tup (zs.map D.int), sideD dn] cs P Z := ⟨b, ws, zs, dn, _, rfl, .inl rfl, hw, hz, hs, h⟩
theorem r_law_laidL {b : Bx} {ws zs : List Int} {dn : Bool} {cs : Cs} {P : DP} {Z : XZ} (hw : WOk ws) (hz : SzOk zs ws.length) (hs : b.Sz 800) (h : P (.lst ((laidB b ws zs dn).map Bx.d)) cs) : sp_law_laid [b.d, .lst (ws.map D.int), .lst (zs.map D.int), sideD dn] cs P Z := ⟨b, ws, zs, dn, _, rfl, .inr rfl, hw, hz, hs, h⟩
theorem sc_law_laid : FnScope ["_law_box", "_law_weights_here", "_law_sizes_here", "_law_lean_here", "_law_rows", "_law_found", "_law_row", "_law_inner"] ["_law_box", "_law_weights_here", "_law_sizes_here", "_law_lean_here"] (defScope s_law_laid) := ⟨rfl, rfl, rfl, by decide +kernel, rfl, by decide +kernel, by decide +kernel⟩
theorem ok_law_laid {P : Program} {w : World} {K : PySem.W.Frag} {mg : Str → Option Value} {base : Heap} (T : Txt K mg base) : FnOk P w K mg base (L2.CX P w) 5 (He.ga K "_law_laid") T.fd_law_laid ["_law_box", "_law_weights_here", "_law_sizes_here", "_law_lean_here"] (spL K 4 sp_law_laid) := by
  apply ok_def (k := 4) T.F_law_laid sc_law_laid
  case hb =>
    intro cdv A outer s H E hr
    exact (dss_cons (ds_set (i := 4) sc_law_laid.nd rfl (Or.inl rfl) (d_callN (ok_law_parted T) (hr.mono (by decide)) rfl T.g_law_parted T.F_law_parted.kp (b_law_parted T) takesD (da_cons (d_var 1) (da_cons (d_var 2) da_nil))))
      (dss_cons (ds_set (i := 5) sc_law_laid.nd rfl (Or.inl rfl) (d_lst da_nil))
      (dss_cons (ds_for passD rfl (di_zip rfl T.n_zip (da_cons (d_var 4) (da_cons (d_callN (ok_law_split T) (hr.mono (by decide)) rfl T.g_law_split T.F_law_split.kp (b_law_split T) takesD (da_cons (d_var 0) (da_cons (d_lc rfl sc_law_laid.nd (di_list (d_var 4)) (blkOk_by (own := [("_law_row", 6)]) (N := ["_law_box", "_law_weights_here", "_law_sizes_here", "_law_lean_here", "_law_rows", "_law_found", "_law_row", "_law_inner"]) (sc := defScope s_law_laid) (by decide +kernel)) (gok_name (by decide)) (fun _ _ _ _ _ => (pg_name (i := 6) sc_law_laid.nd rfl (Or.inl rfl))) (fun _ _ _ _ _ => dts_nil) (fun _ _ _ _ _ => (d_callB (cr_sumA rfl) adq_sumA rfl T.n_sum (by decide +kernel) (da_cons (d_var 6) da_nil)))) (da_cons (d_var 3) da_nil)))) da_nil))) (dg_tup (n := 2) rfl (dgs_cons (dg_name (i := 6) sc_law_laid.nd rfl (Or.inl rfl)) (dgs_cons (dg_name (i := 7) sc_law_laid.nd rfl (Or.inl rfl)) dgs_nil))) (dss_one (ds_set (i := 5) sc_law_laid.nd rfl (Or.inl rfl) (d_catL (d_var 5) (d_callN (ok_law_split T) (hr.mono (by decide)) rfl T.g_law_split T.F_law_split.kp (b_law_split T) takesD (da_cons (d_var 7) (da_cons (d_var 6) (da_cons (d_callN (ok_law_turned_lean T) (hr.mono (by decide)) rfl T.g_law_turned_lean T.F_law_turned_lean.kp (b_law_turned_lean T) takesD (da_cons (d_var 3) da_nil)) da_nil))))))))
      (dss_one (ds_ret (d_var 5))))))
  case hsp =>
    skip
    rintro ds cs Q Z ⟨b, ws, zs, dn, sz, rfl, hsz, hw, hz, hb, h⟩ _
    have hl := hw.l1
    have hs := sums_wok hw hz
    show (_ : WS) (finD Q Z) [some _, some _, some _, some _, none, none, none, none] cs
    rcases hsz with rfl | rfl
    all_goals
      walk_at "GO"
      refine ⟨by rw [List.length_map]; unfold DL.rowsOf; rw [List.length_map, List.length_range]; have := hz.len; omega, ?_⟩
      refine r_cm (fun r => .int r.sum) (fun r N N' hm hN => ?_) ?_
      · walk_at "GO"
        exact hN
      rw [show (DL.rowsOf ws zs).map (fun r => D.int r.sum) = (sumsOf ws zs).map D.int by unfold DL.rowsOf sumsOf; rw [List.map_map, List.map_map]; rfl]
      walk_at "GO"
      refine r_loopE (l := List.range zs.length) (g := fun i => .tup [.lst ((rowAt ws zs i).map D.int), (splitAt_ b (sumsOf ws zs) dn i).d]) (fun i ρ cs' => ∃ (c2 c4 c6 c7 : Option D), ρ = [some (b.d), some (.lst (ws.map D.int)), c2, some (sideD dn), c4, some (.lst (((List.range i).flatMap (laidAt b ws zs dn)).map Bx.d)), c6, c7] ∧ cs' = cs) (by unfold DL.rowsOf splitB; rw [sums_len, List.map_map, List.map_map, zip_map]; rfl) ⟨_, _, _, _, rfl, rfl⟩ ?_ ?_
      · rintro i i' ρ cs' N hd ⟨c2, c4, c6, c7, rfl, rfl⟩ hN
        obtain ⟨hi, rfl⟩ := range_get hd
        have rw_ := row_wok hw hz hi
        have sz_ := splitAt_sz hb hs dn (i := i) (by rw [sums_len]; exact hi)
        walk_at "GO"
        refine r_catLL ?_ ?_
        · have e := laid_pre b dn hz (i := i) (by omega)
          have e2 := rw_.l1
          rw [List.length_map, List.length_map, DL.split_len, e, List.length_take]
          omega
        walk_at "GO"
        have e := flat_more (laidAt b ws zs dn) Bx.d i
        unfold laidAt at e ⊢
        rw [e]
        exact hN _ _ ⟨_, _, _, _, rfl, rfl⟩
      · rintro ρ cs' ⟨c2, c4, c6, c7, rfl, rfl⟩
        walk_at "GO"
        rw [List.length_range]
        exact h
local macro_rules | `(tactic| walk_at "cl") => `(tactic| (first | ((with_reducible apply r_law_laid); (walk_at "wk"); (assumption); (walk_at "sz")) | ((with_reducible apply r_law_laidL); (walk_at "wk"); (assumption); (walk_at "sz"))))
def sp_common : DSp := fun ds cs P _ => ∃ a b : Nat, ds = [.int (a : Int), .int (b : Int)] ∧ P (.int (Nat.gcd a b : Int)) cs
theorem sc_common : FnScope ["one", "other"] ["one", "other"] (defScope s_common) := ⟨rfl, rfl, rfl, by decide +kernel, rfl, by decide +kernel, by decide +kernel⟩
theorem ok_common {P : Program} {w : World} {K : PySem.W.Frag} {mg : Str → Option Value} {base : Heap} (T : Txt K mg base) : FnOk P w K mg base (L2.CX P w) 1 (He.ga K "common") T.fd_common ["one", "other"] (spL K 2 sp_common) := by
  apply ok_def (k := 0) T.F_common sc_common
  case hb =>
    intro cdv A outer s H E hr
    exact (dss_cons (ds_while passD (dt_ne hr.units (d_var 1) d_int) (dss_one (ds_par (i := 0) (j := 1) rfl sc_common.nd rfl rfl (by decide) rfl rfl (da_cons (d_var 1) (da_cons (d_mod (d_var 0) (d_var 1)) da_nil)))))
      (dss_one (ds_ret (d_var 0))))
  case hsp =>
    skip
    rintro ds cs Q Z ⟨a, b, rfl, h⟩ _
    show (_ : WS) (finD Q Z) [some _, some _] cs
    walk_at "go"
    refine r_while (fun m ρ cs' => ∃ a' b' : Nat, ρ = [some (.int (a' : Int)), some (.int (b' : Int))] ∧ m = b' ∧ cs' = cs ∧ Nat.gcd a' b' = Nat.gcd a b) ⟨b, a, b, rfl, rfl, rfl, rfl⟩ ?_
    rintro m ρ cs' N ⟨a', b', rfl, hm, rfl, hg⟩ hN
    walk_at "go"
    refine ⟨fun hk => ?_, fun hk => ?_⟩
    · have hb : (b' : Int) ≠ 0 := ndecT hk
      have hb0 : (0 : Int) < b' := by omega
      walk_at "go"
      refine hN (a' % b') _ _ (by rw [hm]; exact Nat.mod_lt _ (by omega)) ⟨b', a' % b', rfl, rfl, rfl, ?_⟩
      rw [← hg, Nat.gcd_comm b', ← Nat.gcd_rec, Nat.gcd_comm]
    · have hb : (b' : Int) = 0 := ndecF hk
      have hb0 : b' = 0 := by omega
      rw [hb0]
      walk_at "go"
      rw [← hg, hb0, Nat.gcd_zero_right] at h
      exact h
def sp_part : DSp := fun ds cs P Z => ∃ a b : Int, ds = [.int a, .int b] ∧ b.natAbs < 2 ^ 9000 ∧ (b ≠ 0 → P (dR (Rat.divInt a b)) cs) ∧ (b = 0 → Z (exn "BadPart") cs)
theorem r_part {a b : Int} {cs : Cs} {P : DP} {Z : XZ} (b0 : b ≠ 0) (hb : b.natAbs < 2 ^ 9000) (h : P (dR (Rat.divInt a b)) cs) : sp_part [.int a, .int b] cs P Z := ⟨a, b, rfl, hb, fun _ => h, fun z => absurd z b0⟩
theorem sc_part : FnScope ["above", "below", "by"] ["above", "below"] (defScope s_part) := ⟨rfl, rfl, rfl, by decide +kernel, rfl, by decide +kernel, by decide +kernel⟩
theorem ok_part {P : Program} {w : World} {K : PySem.W.Frag} {mg : Str → Option Value} {base : Heap} (T : Txt K mg base) : FnOk P w K mg base (L2.CX P w) 4 (He.ga K "part") T.fd_part ["above", "below"] (spL K 2 sp_part) := by
  apply ok_def (k := 3) T.F_part sc_part
  case hb =>
    intro cdv A outer s H E hr
    exact (dss_cons (ds_if (dt_eq hr.units (d_var 1) d_int) (dss_one (ds_raise0 rfl takesD T.x_BadPart.x T.x_BadPart.ini T.x_BadPart.ty (ok_i_BadPart T) (hr.mono (by decide)) (b_i_BadPart T) .nil (fun _ => .nil) rfl fld0 rfl T.g_BadPart)) dss_nil)
      (dss_cons (ds_if (dt_lt (d_var 1) d_int) (dss_one (ds_par (i := 0) (j := 1) rfl sc_part.nd rfl rfl (by decide) rfl rfl (da_cons (d_neg (d_var 0)) (da_cons (d_neg (d_var 1)) da_nil)))) dss_nil)
      (dss_cons (ds_set (i := 2) sc_part.nd rfl (Or.inl rfl) (d_callN (ok_common T) (hr.mono (by decide)) rfl T.g_common T.F_common.kp (b_common T) takesD (da_cons (d_callB call_abs adq_abs rfl T.n_abs (by decide +kernel) (da_cons (d_var 0) da_nil)) (da_cons (d_var 1) da_nil))))
      (dss_one (ds_ret (d_tup (da_cons (d_fdiv (d_var 0) (d_var 2)) (da_cons (d_fdiv (d_var 1) (d_var 2)) da_nil))))))))
  case hsp =>
    skip
    rintro ds cs Q Z ⟨a, b, rfl, hs, h, hz⟩ _
    show (_ : WS) (finD Q Z) [some _, some _, none] cs
    walk_at "go"
    refine ⟨fun hk => ?_, fun hk => ?_⟩
    · exact r_raise (hz (decT hk))
    have hb : b ≠ 0 := decF hk
    replace h := h hb
    walk_at "g1"
    refine r_key (N := fun ρ' cs' => ∃ a' b' : Int, ρ' = [some (.int a'), some (.int b'), none] ∧ cs' = cs ∧ 0 < b' ∧ b'.natAbs < 2 ^ 9000 ∧ Rat.divInt a' b' = Rat.divInt a b) ?_ (fun nx key => ?_)
    · rintro ρ' cs' ⟨a', b', rfl, rfl, hp, hz, he⟩
      walk_at "go"
      rw [abs_nat]
      have hn : b' = (b'.natAbs : Int) := by omega
      refine ⟨a'.natAbs, b'.natAbs, by rw [← hn], ?_⟩
      have g := gcd_ok (a := a'.natAbs) (b := b'.natAbs) (by omega) hz
      obtain ⟨e1, e2⟩ := part_pos a' b' hp
      walk_at "go"
      show Q (.tup [.int (a' / _), .int (b' / _)]) cs'
      rw [e1, e2, he]
      exact h
    · walk_at "go"
      refine ⟨fun hk2 => ?_, fun hk2 => ?_⟩
      · have hlt := decT hk2
        walk_at "go"
        exact key _ _ ⟨-a, -b, rfl, rfl, by omega, by rw [Int.natAbs_neg]; exact hs, part_neg a b⟩
      · have hlt := decF hk2
        walk_at "go"
        exact key _ _ ⟨a, b, rfl, rfl, by omega, hs, rfl⟩
local macro_rules | `(tactic| walk_at "cl") => `(tactic| (first | ((with_reducible apply r_part); (walk_at "in"); (walk_at "p9"))))
def sp_plus : DSp := fun ds cs P _ => ∃ x y : Rat, ds = [dR x, dR y] ∧ Sz 4000 x ∧ Sz 4000 y ∧ P (dR (x + y)) cs
theorem r_plus {x y : Rat} {cs : Cs} {P : DP} {Z : XZ} (hx : Sz 4000 x) (hy : Sz 4000 y) (h : P (dR (x + y)) cs) : sp_plus [dR x, dR y] cs P Z := ⟨x, y, rfl, hx, hy, h⟩
theorem sc_plus : FnScope ["one", "other"] ["one", "other"] (defScope s_plus) := ⟨rfl, rfl, rfl, by decide +kernel, rfl, by decide +kernel, by decide +kernel⟩
theorem ok_plus {P : Program} {w : World} {K : PySem.W.Frag} {mg : Str → Option Value} {base : Heap} (T : Txt K mg base) : FnOk P w K mg base (L2.CX P w) 5 (He.ga K "plus") T.fd_plus ["one", "other"] (spL K 2 sp_plus) := by
  apply ok_def (k := 4) T.F_plus sc_plus
  case hb =>
    intro cdv A outer s H E hr
    exact (dss_one (ds_ret (d_callN (ok_part T) (hr.mono (by decide)) rfl T.g_part T.F_part.kp (b_part T) takesD (da_cons (d_add (d_mul (d_sub_ix (d_var 0) d_int) (d_sub_ix (d_var 1) d_int)) (d_mul (d_sub_ix (d_var 1) d_int) (d_sub_ix (d_var 0) d_int))) (da_cons (d_mul (d_sub_ix (d_var 0) d_int) (d_sub_ix (d_var 1) d_int)) da_nil)))))
  case hsp =>
    skip
    rintro ds cs Q Z ⟨x, y, rfl, hx, hy, h⟩ _
    show (_ : WS) (finD Q Z) [some _, some _] cs
    have m1 := hx.nd hy
    have m2 := hy.nd hx
    have m3 := hx.dd hy
    have m4 := hx.nn hy
    walk_at "go"
    exact r_part (Int.mul_ne_zero (den_ne x) (den_ne y)) (dd_ok hx hy (by decide)) (by rw [divInt_add]; exact h)
local macro_rules | `(tactic| walk_at "cl") => `(tactic| (first | ((with_reducible apply r_plus); (walk_at "sz"); (walk_at "sz"))))
def sp_ends : DSp := fun ds cs P _ => ∃ l t w h : Rat, ds = [dB l t w h] ∧ Sz 1900 l ∧ Sz 1900 t ∧ Sz 1900 w ∧ Sz 1900 h ∧ P (.tup [dR l, dR (l + w), dR t, dR (t + h)]) cs
theorem r_ends {b : Bx} {cs : Cs} {P : DP} {Z : XZ} (hl : Sz 1900 b.l) (ht : Sz 1900 b.t) (hw : Sz 1900 b.w) (hh : Sz 1900 b.h) (h : P (.tup [dR b.l, dR (b.l + b.w), dR b.t, dR (b.t + b.h)]) cs) : sp_ends [b.d] cs P Z := ⟨b.l, b.t, b.w, b.h, rfl, hl, ht, hw, hh, h⟩
theorem sc_ends : FnScope ["box", "left", "top", "wide", "high"] ["box"] (defScope s_ends) := ⟨rfl, rfl, rfl, by decide +kernel, rfl, by decide +kernel, by decide +kernel⟩
theorem ok_ends {P : Program} {w : World} {K : PySem.W.Frag} {mg : Str → Option Value} {base : Heap} (T : Txt K mg base) : FnOk P w K mg base (L2.CX P w) 6 (He.ga K "ends") T.fd_ends ["box"] (spL K 1 sp_ends) := by
  apply ok_def (k := 5) T.F_ends sc_ends
  case hb =>
    intro cdv A outer s H E hr
    exact (dss_cons (ds_asg (d_var 0) (dg_tup (n := 4) rfl (dgs_cons (dg_name (i := 1) sc_ends.nd rfl (Or.inl rfl)) (dgs_cons (dg_name (i := 2) sc_ends.nd rfl (Or.inl rfl)) (dgs_cons (dg_name (i := 3) sc_ends.nd rfl (Or.inl rfl)) (dgs_cons (dg_name (i := 4) sc_ends.nd rfl (Or.inl rfl)) dgs_nil))))))
      (dss_one (ds_ret (d_tup (da_cons (d_var 1) (da_cons (d_callN (ok_plus T) (hr.mono (by decide)) rfl T.g_plus T.F_plus.kp (b_plus T) takesD (da_cons (d_var 1) (da_cons (d_var 3) da_nil))) (da_cons (d_var 2) (da_cons (d_callN (ok_plus T) (hr.mono (by decide)) rfl T.g_plus T.F_plus.kp (b_plus T) takesD (da_cons (d_var 2) (da_cons (d_var 4) da_nil))) da_nil))))))))
  case hsp =>
    skip
    rintro ds cs Q Z ⟨l, t, wd, hg, rfl, sl, st, sw, sh, h⟩ _
    show (_ : WS) (finD Q Z) [some _, none, none, none, none] cs
    unfold dB
    walk_at "go"
    refine ⟨l, wd, rfl, sl.mono (by decide), sw.mono (by decide), ?_⟩
    walk_at "go"
    refine ⟨t, hg, rfl, st.mono (by decide), sh.mono (by decide), ?_⟩
    walk_at "go"
    exact h
local macro_rules | `(tactic| walk_at "cl") => `(tactic| (first | ((with_reducible apply r_ends); (walk_at "sz"); (walk_at "sz"); (walk_at "sz"); (walk_at "sz"))))
def sp_line_at : DSp := fun ds cs P _ => ∃ (r : Rat) (W n : Int), ds = [dR r, .int W, .int n] ∧ Sz 1900 r ∧ 0 < W ∧ W ≤ 1000 ∧ 0 ≤ n ∧ n ≤ 40 ∧ P (.int (lnR r W n)) cs
theorem r_line_at {r : Rat} {W n : Int} {cs : Cs} {P : DP} {Z : XZ} (hr : Sz 1900 r) (h0 : 0 < W) (h1 : W ≤ 1000) (h2 : 0 ≤ n) (h3 : n ≤ 40) (h : P (.int (lnR r W n)) cs) : sp_line_at [dR r, .int W, .int n] cs P Z := ⟨r, W, n, rfl, hr, h0, h1, h2, h3, h⟩
theorem sc_line_at : FnScope ["spot", "whole", "many", "above", "below"] ["spot", "whole", "many"] (defScope s_line_at) := ⟨rfl, rfl, rfl, by decide +kernel, rfl, by decide +kernel, by decide +kernel⟩
theorem ok_line_at {P : Program} {w : World} {K : PySem.W.Frag} {mg : Str → Option Value} {base : Heap} (T : Txt K mg base) : FnOk P w K mg base (L2.CX P w) 1 (He.ga K "line_at") T.fd_line_at ["spot", "whole", "many"] (spL K 3 sp_line_at) := by
  apply ok_def (k := 0) T.F_line_at sc_line_at
  case hb =>
    intro cdv A outer s H E hr
    exact (dss_cons (ds_par (i := 3) (j := 4) rfl sc_line_at.nd rfl rfl (by decide) rfl rfl (da_cons (d_mul (d_sub_ix (d_var 0) d_int) (d_var 2)) (da_cons (d_mul (d_sub_ix (d_var 0) d_int) (d_var 1)) da_nil)))
      (dss_one (ds_ret (d_neg (d_fdiv (d_sub (d_var 4) (d_mul d_int (d_var 3))) (d_mul d_int (d_var 4)))))))
  case hsp =>
    skip
    rintro ds cs Q Z ⟨r, W, n, rfl, hr, h0, h1, h2, h3, h⟩ _
    have hn := hr.1
    have hd := hr.2
    have m1 : IntMulOk r.num n := DL.mulOk_of (a := 1900) (b := 6) hn (by omega) (by decide)
    have m2 : IntMulOk (r.den : Int) W := DL.mulOk_of (a := 1900) (b := 10) (by rw [Int.natAbs_natCast]; exact hd) (by omega) (by decide)
    have hp : (0 : Int) < (r.den : Int) * W := Int.mul_pos (den_pos r) h0
    have hl : ((r.den : Int) * W).natAbs < 2 ^ 1910 := by
      rw [Int.natAbs_mul, Int.natAbs_natCast]
      calc r.den * W.natAbs < 2 ^ 1900 * 2 ^ 10 := Nat.mul_lt_mul_of_lt_of_le hd (by omega) (by exact Nat.two_pow_pos 10)
        _ = 2 ^ 1910 := by rw [← Nat.pow_add]
    have hdv : 0 < 2 * ((r.den : Int) * W) ∧ (2 * ((r.den : Int) * W)).natAbs.log2 < 9000 := by
      refine ⟨by omega, ?_⟩
      have : (2 * ((r.den : Int) * W)).natAbs < 2 ^ 1911 := by
        rw [Int.natAbs_mul, show (2 : Nat) ^ 1911 = 2 * 2 ^ 1910 from Nat.pow_succ']
        exact Nat.mul_lt_mul_of_pos_left hl (by decide)
      exact Nat.lt_of_lt_of_le (PySem.Flt.log2_lt_of (by decide) this) (by decide)
    show (_ : WS) (finD Q Z) [some _, some _, some _, none, none] cs
    walk_at "GO"
    exact h
local macro_rules | `(tactic| walk_at "cl") => `(tactic| (first | ((with_reducible apply r_line_at); (walk_at "sz"); (walk_at "in"); (walk_at "in"); (walk_at "in"); (walk_at "in"))))
def lnB (W H C R : Int) (b : Bx) : D := .tup [.int (lnR b.l W C), .int (lnR (b.l + b.w) W C), .int (lnR b.t H R), .int (lnR (b.t + b.h) H R)]
def sp_lines_of : DSp := fun ds cs P _ => ∃ (b : Bx) (W H C R : Int), ds = [b.d, .int W, .int H, .int C, .int R] ∧ b.Sz 900 ∧ (0 < W ∧ W ≤ 1000) ∧ (0 < H ∧ H ≤ 1000) ∧ (0 ≤ C ∧ C ≤ 40) ∧ (0 ≤ R ∧ R ≤ 40) ∧ P (lnB W H C R b) cs
theorem r_lines_of {b : Bx} {W H C R : Int} {cs : Cs} {P : DP} {Z : XZ} (hb : b.Sz 900) (hW : 0 < W ∧ W ≤ 1000) (hH : 0 < H ∧ H ≤ 1000) (hC : 0 ≤ C ∧ C ≤ 40) (hR : 0 ≤ R ∧ R ≤ 40) (h : P (lnB W H C R b) cs) : sp_lines_of [b.d, .int W, .int H, .int C, .int R] cs P Z := ⟨b, W, H, C, R, rfl, hb, hW, hH, hC, hR, h⟩
theorem sc_lines_of : FnScope ["box", "wide", "high", "columns", "rows", "left", "right", "top", "bottom", "across"] ["box", "wide", "high", "columns", "rows"] (defScope s_lines_of) := ⟨rfl, rfl, rfl, by decide +kernel, rfl, by decide +kernel, by decide +kernel⟩
theorem ok_lines_of {P : Program} {w : World} {K : PySem.W.Frag} {mg : Str → Option Value} {base : Heap} (T : Txt K mg base) : FnOk P w K mg base (L2.CX P w) 7 (He.ga K "lines_of") T.fd_lines_of ["box", "wide", "high", "columns", "rows"] (spL K 5 sp_lines_of) := by
  apply ok_def (k := 6) T.F_lines_of sc_lines_of
  case hb =>
    intro cdv A outer s H E hr
    exact (dss_cons (ds_asg (d_callN (ok_ends T) (hr.mono (by decide)) rfl T.g_ends T.F_ends.kp (b_ends T) takesD (da_cons (d_var 0) da_nil)) (dg_tup (n := 4) rfl (dgs_cons (dg_name (i := 5) sc_lines_of.nd rfl (Or.inl rfl)) (dgs_cons (dg_name (i := 6) sc_lines_of.nd rfl (Or.inl rfl)) (dgs_cons (dg_name (i := 7) sc_lines_of.nd rfl (Or.inl rfl)) (dgs_cons (dg_name (i := 8) sc_lines_of.nd rfl (Or.inl rfl)) dgs_nil))))))
      (dss_cons (ds_set (i := 9) sc_lines_of.nd rfl (Or.inl rfl) (d_tup (da_cons (d_callN (ok_line_at T) (hr.mono (by decide)) rfl T.g_line_at T.F_line_at.kp (b_line_at T) takesD (da_cons (d_var 5) (da_cons (d_var 1) (da_cons (d_var 3) da_nil)))) (da_cons (d_callN (ok_line_at T) (hr.mono (by decide)) rfl T.g_line_at T.F_line_at.kp (b_line_at T) takesD (da_cons (d_var 6) (da_cons (d_var 1) (da_cons (d_var 3) da_nil)))) da_nil))))
      (dss_one (ds_ret (d_catT (d_var 9) (d_tup (da_cons (d_callN (ok_line_at T) (hr.mono (by decide)) rfl T.g_line_at T.F_line_at.kp (b_line_at T) takesD (da_cons (d_var 7) (da_cons (d_var 2) (da_cons (d_var 4) da_nil)))) (da_cons (d_callN (ok_line_at T) (hr.mono (by decide)) rfl T.g_line_at T.F_line_at.kp (b_line_at T) takesD (da_cons (d_var 8) (da_cons (d_var 2) (da_cons (d_var 4) da_nil)))) da_nil))))))))
  case hsp =>
    skip
    rintro ds cs Q Z ⟨b, W, H, C, R, rfl, hb, ⟨w0, w1⟩, ⟨h0, h1⟩, ⟨c0, c1⟩, ⟨r0, r1⟩, h⟩ _
    have s1 := hb.l
    have s2 := hb.t
    have s3 := hb.w
    have s4 := hb.h
    have t1 : Sz 1900 b.l := s1.mono (by decide)
    have t2 : Sz 1900 b.t := s2.mono (by decide)
    have t3 : Sz 1900 (b.l + b.w) := (Sz.add s1 s3).mono (by decide)
    have t4 : Sz 1900 (b.t + b.h) := (Sz.add s2 s4).mono (by decide)
    have hb19 : b.Sz 1900 := hb.mono (by decide)
    show (_ : WS) (finD Q Z) [some _, some _, some _, some _, some _, none, none, none, none, none] cs
    walk_at "GO"
    exact h
def sp_is_whole : DSp := fun ds cs P _ => ∃ d, ds = [d] ∧ knD d = true ∧ P (.bl (wholeD d)) cs
theorem r_is_whole {i : Int} {cs : Cs} {P : DP} {Z : XZ} (h : P (.bl true) cs) : sp_is_whole [.int i] cs P Z := ⟨.int i, rfl, rfl, h⟩
theorem sc_is_whole : FnScope ["thing"] ["thing"] (defScope s_is_whole) := ⟨rfl, rfl, rfl, by decide +kernel, rfl, by decide +kernel, by decide +kernel⟩
theorem ok_is_whole {P : Program} {w : World} {K : PySem.W.Frag} {mg : Str → Option Value} {base : Heap} (T : Txt K mg base) : FnOk P w K mg base (L2.CX P w) 1 (He.ga K "is_whole") T.fd_is_whole ["thing"] (spL K 1 sp_is_whole) := by
  apply ok_def (k := 0) T.F_is_whole sc_is_whole
  case hb =>
    intro cdv A outer s H E hr
    exact (dss_one (ds_ret (d_and (d_callB call_isi adq_isi rfl T.n_isinstance (by decide +kernel) (da_cons (d_var 0) (da_cons (d_ty (n := "int") rfl T.n_int (by decide +kernel)) da_nil))) (d_one (d_not (d_callB call_isi adq_isi rfl T.n_isinstance (by decide +kernel) (da_cons (d_var 0) (da_cons (d_ty (n := "bool") rfl T.n_bool (by decide +kernel)) da_nil))))))))
  case hsp =>
    skip
    rintro ds cs Q Z ⟨d, rfl, hk, h⟩ _
    show (_ : WS) (finD Q Z) [some _] cs
    cases d <;> first
      | (simp [knD] at hk; done)
      | (walk_at "go"; exact h)
local macro_rules | `(tactic| walk_at "cl") => `(tactic| (first | (with_reducible refine r_is_whole ?_)))
def sp_is_size : DSp := fun ds cs P _ => ∃ (d : D) (m : Int), ds = [d, .int m] ∧ knD d = true ∧ P (.bl (szD d m)) cs
theorem r_is_size {a m : Int} {cs : Cs} {P : DP} {Z : XZ} (h : P (.bl (decide (1 ≤ a ∧ a ≤ m))) cs) : sp_is_size [.int a, .int m] cs P Z := ⟨.int a, m, rfl, rfl, h⟩
theorem r_is_sizeD {d : D} {m : Int} {cs : Cs} {P : DP} {Z : XZ} (hk : knD d = true) (h : P (.bl (szD d m)) cs) : sp_is_size [d, .int m] cs P Z := ⟨d, m, rfl, hk, h⟩
theorem sc_is_size : FnScope ["thing", "most"] ["thing", "most"] (defScope s_is_size) := ⟨rfl, rfl, rfl, by decide +kernel, rfl, by decide +kernel, by decide +kernel⟩
theorem ok_is_size {P : Program} {w : World} {K : PySem.W.Frag} {mg : Str → Option Value} {base : Heap} (T : Txt K mg base) : FnOk P w K mg base (L2.CX P w) 2 (He.ga K "is_size") T.fd_is_size ["thing", "most"] (spL K 2 sp_is_size) := by
  apply ok_def (k := 1) T.F_is_size sc_is_size
  case hb =>
    intro cdv A outer s H E hr
    exact (dss_one (ds_ret (d_and (d_callN (ok_is_whole T) (hr.mono (by decide)) rfl T.g_is_whole T.F_is_whole.kp (b_is_whole T) takesD (da_cons (d_var 0) da_nil)) (d_one (d_chain_le_le d_int (d_var 0) (d_var 1))))))
  case hsp =>
    skip
    rintro ds cs Q Z ⟨d, m, rfl, hk, h⟩ _
    show (_ : WS) (finD Q Z) [some _, some _] cs
    walk_at "GO"
    refine ⟨d, rfl, hk, ?_⟩
    by_cases hi : ∃ a, d = .int a
    · obtain ⟨a, rfl⟩ := hi
      rw [show wholeD (.int a) = true from rfl]
      walk_at "GO"
      by_cases h1 : 1 ≤ a
      · refine r_pos h1 ?_
        walk_at "GO"
        rw [show decide (a ≤ m) = decide (1 ≤ a ∧ a ≤ m) from decide_eq_decide.mpr ⟨fun z => ⟨h1, z⟩, fun z => z.2⟩]
        exact h
      · refine r_neg_ h1 ?_
        rw [show szD (.int a) m = false from decide_eq_false (fun z : 1 ≤ a ∧ a ≤ m => h1 z.1)] at h
        exact h
    · have e1 : wholeD d = false := by cases d <;> first | rfl | exact absurd ⟨_, rfl⟩ hi
      have e2 : szD d m = false := by cases d <;> first | rfl | exact absurd ⟨_, rfl⟩ hi
      rw [e1]
      rw [e2] at h
      walk_at "GO"
      exact h
local macro_rules | `(tactic| walk_at "cl") => `(tactic| (first | with_reducible refine r_is_size ?_))
def sp_drawn : DSp := fun ds cs P Z => (∃ (nb : NB) (W H : Int) (C R : Nat), ds = [.dic (dicB nb), .int W, .int H, .int (C : Int), .int (R : Int)] ∧ NbOk nb ∧ InW W H nb ∧ (0 < W ∧ W ≤ 1000) ∧ (0 < H ∧ H ≤ 1000) ∧ (1 ≤ C ∧ C ≤ 40) ∧ (1 ≤ R ∧ R ≤ 40) ∧ ∀ q ps cs', RowsAt cs (cellS W H C R nb) R C q ps cs' → P (.opq (.ref q)) cs') ∨ (∃ b w h c r : D, ds = [b, w, h, c, r] ∧ (knD w = true ∧ knD h = true ∧ knD c = true ∧ knD r = true) ∧ whySq w h c r ≠ "" ∧ Z (exn (whySq w h c r)) cs)
theorem r_drawn {nb : NB} {W H : Int} {C R : Nat} {cs : Cs} {P : DP} {Z : XZ} (hn : NbOk nb) (hi : InW W H nb) (hW : 0 < W ∧ W ≤ 1000) (hH : 0 < H ∧ H ≤ 1000) (hC : 1 ≤ C ∧ C ≤ 40) (hR : 1 ≤ R ∧ R ≤ 40) (h : ∀ q ps cs', RowsAt cs (cellS W H C R nb) R C q ps cs' → P (.opq (.ref q)) cs') : sp_drawn [.dic (dicB nb), .int W, .int H, .int (C : Int), .int (R : Int)] cs P Z := .inl ⟨nb, W, H, C, R, rfl, hn, hi, hW, hH, hC, hR, h⟩
theorem r_drawnX {b w h c r : D} {cs : Cs} {P : DP} {Z : XZ} (hk : knD w = true ∧ knD h = true ∧ knD c = true ∧ knD r = true) (h1 : whySq w h c r ≠ "") (h2 : Z (exn (whySq w h c r)) cs) : sp_drawn [b, w, h, c, r] cs P Z := .inr ⟨b, w, h, c, r, rfl, hk, h1, h2⟩
theorem r_drawnW {b w h c r : D} {y : Str} {cs : Cs} {P : DP} {Z : XZ} (hk : knD w = true ∧ knD h = true ∧ knD c = true ∧ knD r = true) (e : whySq w h c r = y) (hy : y ≠ "") (h2 : Z (exn y) cs) : sp_drawn [b, w, h, c, r] cs P Z := r_drawnX hk (by rw [e]; exact hy) (by rw [e]; exact h2)
theorem sc_drawn : FnScope ["boxes", "wide", "high", "columns", "rows", "found", "row", "name", "left", "right", "top", "bottom"] ["boxes", "wide", "high", "columns", "rows"] (defScope s_drawn) := ⟨rfl, rfl, rfl, by decide +kernel, rfl, by decide +kernel, by decide +kernel⟩
theorem ok_drawn {P : Program} {w : World} {K : PySem.W.Frag} {mg : Str → Option Value} {base : Heap} (T : Txt K mg base) : FnOk P w K mg base (L2.CX P w) 8 (He.ga K "drawn") T.fd_drawn ["boxes", "wide", "high", "columns", "rows"] (spL K 5 sp_drawn) := by
  apply ok_def (k := 7) T.F_drawn sc_drawn
  case hb =>
    intro cdv A outer s H E hr
    exact (dss_cons (ds_if (dt_w (dw_or (dt_not (dt_val (d_callN (ok_is_size T) (hr.mono (by decide)) rfl T.g_is_size T.F_is_size.kp (b_is_size T) takesD (da_cons (d_var 1) (da_cons (d_gint rfl T.c_MOST_SIZE) da_nil))))) (dw_or1 (dt_not (dt_val (d_callN (ok_is_size T) (hr.mono (by decide)) rfl T.g_is_size T.F_is_size.kp (b_is_size T) takesD (da_cons (d_var 2) (da_cons (d_gint rfl T.c_MOST_SIZE) da_nil)))))))) (dss_one (ds_raise0 rfl takesD T.x_BadBox.x T.x_BadBox.ini T.x_BadBox.ty (ok_i_BadBox T) (hr.mono (by decide)) (b_i_BadBox T) .nil (fun _ => .nil) rfl fld0 rfl T.g_BadBox)) dss_nil)
      (dss_cons (ds_if (dt_w (dw_or (dt_not (dt_val (d_callN (ok_is_size T) (hr.mono (by decide)) rfl T.g_is_size T.F_is_size.kp (b_is_size T) takesD (da_cons (d_var 3) (da_cons (d_gint rfl T.c_MOST_SQUARES) da_nil))))) (dw_or1 (dt_not (dt_val (d_callN (ok_is_size T) (hr.mono (by decide)) rfl T.g_is_size T.F_is_size.kp (b_is_size T) takesD (da_cons (d_var 4) (da_cons (d_gint rfl T.c_MOST_SQUARES) da_nil)))))))) (dss_one (ds_raise0 rfl takesD T.x_BadSizes.x T.x_BadSizes.ini T.x_BadSizes.ty (ok_i_BadSizes T) (hr.mono (by decide)) (b_i_BadSizes T) .nil (fun _ => .nil) rfl fld0 rfl T.g_BadSizes)) dss_nil)
      (dss_cons (ds_setLcM (i := 5) rfl sc_drawn.nd rfl rfl (sw_true rfl rfl rfl (by decide +kernel)) (di_range1 rfl T.n_range (da_cons (d_var 4) da_nil)) (blkOk_by (own := [("row", 6)]) (N := ["boxes", "wide", "high", "columns", "rows", "found", "row", "name", "left", "right", "top", "bottom"]) (sc := defScope s_drawn) (by decide +kernel)) (gok_name (by decide)) (fun _ _ _ _ _ => (pg_name (i := 6) sc_drawn.nd rfl (Or.inl rfl))) (fun _ _ _ _ _ => dts_nil) (fun _ _ _ _ _ => (d_lrepM (da_cons d_str da_nil) (d_var 3))))
      (dss_cons (ds_for passD rfl (di_keys (d_var 0)) (dg_name (i := 7) sc_drawn.nd rfl (Or.inl rfl)) (dss_cons (ds_asg (d_callN (ok_lines_of T) (hr.mono (by decide)) rfl T.g_lines_of T.F_lines_of.kp (b_lines_of T) takesD (da_cons (d_getD hr.units (d_var 0) (d_var 7)) (da_cons (d_var 1) (da_cons (d_var 2) (da_cons (d_var 3) (da_cons (d_var 4) da_nil)))))) (dg_tup (n := 4) rfl (dgs_cons (dg_name (i := 8) sc_drawn.nd rfl (Or.inl rfl)) (dgs_cons (dg_name (i := 9) sc_drawn.nd rfl (Or.inl rfl)) (dgs_cons (dg_name (i := 10) sc_drawn.nd rfl (Or.inl rfl)) (dgs_cons (dg_name (i := 11) sc_drawn.nd rfl (Or.inl rfl)) dgs_nil))))))
      (dss_one (ds_for passD rfl (di_range2 rfl T.n_range (da_cons (d_var 10) (da_cons (d_var 11) da_nil))) (dg_name (i := 6) sc_drawn.nd rfl (Or.inl rfl)) (dss_one (ds_goneA (ds_setSl (d_lrepM (da_cons (d_var 7) da_nil) (d_sub (d_var 9) (d_var 8))) (d_ixM (d_var 5) (d_var 6)) (do_some (d_var 8)) (do_some (d_var 9)))))))))
      (dss_one (ds_ret (d_var 5)))))))
  case hsp =>
    skip
    rintro ds cs Q Z (⟨nb, W, H, C, R, rfl, hn, hin, ⟨w0, w1⟩, ⟨h0, h1⟩, ⟨c0, c1⟩, ⟨r0, r1⟩, h⟩ | ⟨b, w, hh, c, r, rfl, ⟨k1, k2, k3, k4⟩, hne, hz⟩) _
    · have hkn := dicB_keys nb
      show (_ : WS) (finD Q Z) [some _, some _, some _, some _, some _, none, none, none, none, none, none, none] cs
      walk_at "GO"
      refine r_npos ⟨w0, w1⟩ ?_
      walk_at "GO"
      refine r_npos ⟨h0, h1⟩ ?_
      walk_at "GO"
      refine r_npos (by omega) ?_
      walk_at "GO"
      refine r_npos (by omega) ?_
      walk_at "GO"
      refine ⟨by omega, by rw [rng_len]; omega, ?_⟩
      refine r_comp0 (fun i acc cs' => ∃ ps : List Addr, acc = ps.map (fun p => D.opq (.ref p)) ∧ ps.length = i ∧ ps.Nodup ∧ (∀ p ∈ ps, look p cs' = some (.lst ((rowF (fun _ _ => "") C 0).map D.str))) ∧ ∀ a m, look a cs = some m → look a cs' = some m ∧ a ∉ ps) ⟨[], rfl, rfl, List.nodup_nil, fun _ h => (nomatch h), fun a m ha => ⟨ha, fun z => (nomatch z)⟩⟩ ?_ ?_
      · rintro i d acc cc N hd ⟨ps, rfl, hl, nd, hrow, hfr⟩ hN
        walk_at "GO"
        refine ⟨C, rfl, by show 1 * C ≤ 100000; omega, by omega, fun p hp => ?_⟩
        have nin : p ∉ ps := fun z => hp (look_in (hrow p z))
        refine hN _ _ ⟨ps ++ [p], by rw [List.map_append]; rfl, by rw [List.length_append, hl]; rfl, List.nodup_append.mpr ⟨nd, by simp, fun a ha b hb e => nin (by rw [List.mem_singleton.mp hb] at e; rw [← e]; exact ha)⟩, fun p' hp' => ?_, fun a m ha => ?_⟩
        · rcases List.mem_append.mp hp' with z | z
          · rw [look_cons_ne (fun e : p' = p => nin (by rw [← e]; exact z))]
            exact hrow p' z
          · rw [List.mem_singleton.mp z, DL.rep_one, show (rowF (fun _ _ => ("" : Str)) C 0).map D.str = List.replicate C (D.str "") by
              unfold rowF
              rw [List.map_map]
              have e := List.map_const' (l := List.range C) (b := D.str "")
              rw [List.length_range] at e
              exact e]
            exact look_hd
        · obtain ⟨a1, a2⟩ := hfr a m ha
          refine ⟨by rw [look_cons_ne (look_ne a1 hp)]; exact a1, fun z => ?_⟩
          rcases List.mem_append.mp z with z | z
          · exact a2 z
          · exact look_ne a1 hp (List.mem_singleton.mp z)
      rintro acc cc ⟨ps, rfl, hl, nd, hrow, hfr⟩
      rw [rng_len] at hl
      intro q hq
      have hq0 : RowsAt cs (cellS W H C R []) R C q ps ((q, .lst (ps.map fun p => .opq (.ref p))) :: cc) := by
        refine ⟨look_hd, by rw [hl]; omega, fun r p hp => ?_, nd, fun z => hq (look_in (hrow q z)), fun a m ha => ?_⟩
        · have hm := List.mem_of_getElem? hp
          rw [look_cons_ne (look_ne (hrow p hm) hq)]
          exact hrow p hm
        · obtain ⟨a1, a2⟩ := hfr a m ha
          exact ⟨by rw [look_cons_ne (look_ne a1 hq)]; exact a1, look_ne a1 hq, a2⟩
      walk_at "GO"
      show loopW _ _ _ ((dicB nb).map fun p => kD p.1) _ _
      refine r_loopE (l := nb) (g := fun z => .str z.1) (fun i ρ cs' => ∃ (c6 c7 c8 c9 c10 c11 : Option D), ρ = [some (.dic (dicB nb)), some (.int W), some (.int H), some (.int (C : Int)), some (.int (R : Int)), some (.opq (.ref q)), c6, c7, c8, c9, c10, c11] ∧ RowsAt cs (cellS W H C R (nb.take i)) R C q ps cs') (by rw [dicB_kd, List.map_map]; rfl) ⟨_, _, _, _, _, _, rfl, hq0⟩ ?_ ?_
      · rintro i z ρ ca N hz1 ⟨c6, c7, c8, c9, c10, c11, rfl, hR1⟩ hN
        have hzm := List.mem_of_getElem? hz1
        have hlk := lk_dicB hn.nd (show (z.1, z.2) ∈ nb from hzm)
        have sz := hn.sz z hzm
        have ps0 := hn.pos z hzm
        obtain ⟨i1, i2, i3, i4⟩ := hin z hzm
        have le1 : z.2.l ≤ z.2.l + z.2.w := by have := ps0.w; grind
        have le2 : z.2.t ≤ z.2.t + z.2.h := by have := ps0.h; grind
        have b1 := lnR_bd (r := z.2.l) (W := W) (n := (C : Int)) w0 (by omega) i1 (Rat.le_trans le1 i2)
        have b2 := lnR_bd (r := z.2.l + z.2.w) (W := W) (n := (C : Int)) w0 (by omega) (Rat.le_trans i1 le1) i2
        have b3 := lnR_bd (r := z.2.t) (W := H) (n := (R : Int)) h0 (by omega) i3 (Rat.le_trans le2 i4)
        have b4 := lnR_bd (r := z.2.t + z.2.h) (W := H) (n := (R : Int)) h0 (by omega) (Rat.le_trans i3 le2) i4
        have m1 := lnR_mono (W := W) (n := (C : Int)) w0 (by omega) le1
        have m2 := lnR_mono (W := H) (n := (R : Int)) h0 (by omega) le2
        have hcov : ∀ r c, covS W H C R z.2 r c = decide (((lnR z.2.t H R ≤ (r : Int)) ∧ (r : Int) < lnR (z.2.t + z.2.h) H R) ∧ lnR z.2.l W C ≤ (c : Int) ∧ (c : Int) < lnR (z.2.l + z.2.w) W C) := fun r c => by
          unfold covS
          rw [← Bool.decide_and, ← Bool.decide_and, ← Bool.decide_and]
          exact decide_eq_decide.mpr And.comm
        obtain ⟨a, ha⟩ : ∃ a : Nat, lnR z.2.l W C = (a : Int) := ⟨(lnR z.2.l W C).toNat, by omega⟩
        obtain ⟨e, he⟩ : ∃ a : Nat, lnR (z.2.l + z.2.w) W C = (a : Int) := ⟨(lnR (z.2.l + z.2.w) W C).toNat, by omega⟩
        obtain ⟨t, ht⟩ : ∃ a : Nat, lnR z.2.t H R = (a : Int) := ⟨(lnR z.2.t H R).toNat, by omega⟩
        obtain ⟨u, hu⟩ : ∃ a : Nat, lnR (z.2.t + z.2.h) H R = (a : Int) := ⟨(lnR (z.2.t + z.2.h) H R).toNat, by omega⟩
        rw [ha, he] at m1
        rw [ht, hu] at m2
        rw [ha] at b1
        rw [he] at b2
        rw [ht] at b3
        rw [hu] at b4
        obtain ⟨f0, hf0⟩ : ∃ f, f = cellS W H C R (nb.take i) := ⟨_, rfl⟩
        rw [← hf0] at hR1
        refine r_seq ?_
        walk_at "G1"
        refine r_lines_of sz ⟨w0, w1⟩ ⟨h0, h1⟩ (by omega) (by omega) ?_
        unfold lnB
        rw [ha, he, ht, hu]
        walk_at "G1"
        refine ⟨by omega, ?_⟩
        refine r_loop0 (fun i ρ cs' => ∃ (c6 : Option D), ρ = [some (.dic (dicB nb)), some (.int W), some (.int H), some (.int (C : Int)), some (.int (R : Int)), some (.opq (.ref q)), c6, some (.str z.1), some (.int (a : Int)), some (.int (e : Int)), some (.int (t : Int)), some (.int (u : Int))] ∧ RowsAt cs (pntF f0 z.1 t i a e) R C q ps cs') ⟨_, rfl, hR1.congr fun r c _ _ => (by unfold pntF; rw [if_neg (by omega)])⟩ ?_ ?_
        · rintro j d ρ c1 N1 hd ⟨c6, rfl, hR2⟩ hN1
          obtain ⟨rfl, hj⟩ := rng_get hd
          have hj2 : t + j < u := by omega
          have hlt : t + j < ps.length := by rw [hR2.len]; omega
          have hpr : ps[t + j]? = some (ps[t + j]'hlt) := List.getElem?_eq_getElem hlt
          generalize ps[t + j]'hlt = p at hpr
          have hrow := hR2.row _ _ hpr
          rw [show (t : Int) + (j : Int) = ((t + j : Nat) : Int) by omega]
          walk_at "GO"
          refine ⟨e - a, by congr 1; omega, by show 1 * (e - a) ≤ 100000; omega, by omega, fun y hy => ?_⟩
          have hyp : p ≠ y := look_ne hrow hy
          rw [DL.rep_one]
          have hq2 := (hR2.over (m := .lst (List.replicate (e - a) (D.str z.1))) hy).out
          walk_at "GO"
          refine r_ixM hq2 (atD_map hpr) ?_
          walk_at "GO"
          refine ⟨p, y, _, _, a, e, rfl, rfl, rfl, rfl, by rw [look_cons_ne hyp]; exact hrow, look_hd, hyp, by omega, by omega, by rw [List.length_map, rowF_len]; omega, by rw [List.length_map, rowF_len, List.length_replicate]; omega, ?_⟩
          rw [put_cons_ne (Ne.symm hyp)]
          refine ⟨y, _, look_hd, ?_⟩
          rw [del_hd, show ((a : Int)).toNat = a by omega, show ((e : Int)).toNat = e by omega, strs_cut, pnt_row (by omega) (by omega)]
          exact hN1 _ _ ⟨_, rfl, hR2.put hpr fun r hr => pnt_other hr⟩
        · rintro ρ c1 ⟨c6, rfl, hR2⟩
          rw [rng_len] at hR2
          refine hN _ _ ⟨_, _, _, _, _, _, rfl, hR2.congr fun r c _ _ => ?_⟩
          rw [cellS_more hz1, hcov, ← hf0, ha, he, ht, hu]
          unfold pntF
          by_cases hh : (t ≤ r ∧ r < u) ∧ a ≤ c ∧ c < e
          · rw [if_pos (by omega), if_pos (decide_eq_true (by omega))]
          · rw [if_neg (by omega), if_neg (by rw [decide_eq_true_eq]; omega)]
      rintro ρ ca ⟨c6, c7, c8, c9, c10, c11, rfl, hR1⟩
      rw [List.take_length] at hR1
      walk_at "GO"
      exact h q ps _ hR1
    · show (_ : WS) (finD Q Z) [some _, some _, some _, some _, some _, none, none, none, none, none, none, none] cs
      walk_at "GO"
      refine r_is_sizeD k1 ?_
      unfold whySq at hne hz
      cases e1 : szD w 1000 with
      | false =>
        rw [e1, Bool.false_and, badW_f rfl, andW_l (by decide)] at hz
        walk_at "GO"
        exact hz
      | true =>
        walk_at "GO"
        refine r_is_sizeD k2 ?_
        cases e2 : szD hh 1000 with
        | false =>
          rw [e1, e2, Bool.true_and, badW_f rfl, andW_l (by decide)] at hz
          walk_at "GO"
          exact hz
        | true =>
          rw [e1, e2, Bool.true_and, badW_t rfl, andW_r] at hz hne
          walk_at "GO"
          refine r_is_sizeD k3 ?_
          cases e3 : szD c 40 with
          | false =>
            rw [e3, Bool.false_and, badW_f rfl] at hz
            walk_at "GO"
            exact hz
          | true =>
            walk_at "GO"
            refine r_is_sizeD k4 ?_
            cases e4 : szD r 40 with
            | false =>
              rw [e3, e4, Bool.true_and, badW_f rfl] at hz
              walk_at "GO"
              exact hz
            | true =>
              rw [e3, e4, Bool.true_and, badW_t rfl] at hne
              exact absurd rfl hne
def sp_law_pick : DSp := fun ds cs P _ => ∃ (p : Addr) (xs : List D), (ds = [.opq (.ref p), .lst xs] ∨ ds = [.opq (.ref p), .tup xs]) ∧ 0 < xs.length ∧ xs.length < 100000 ∧ BagIn p cs ∧ ∀ x cs', x ∈ xs → BagStep p cs cs' → P x cs'
theorem r_law_pick {p : Addr} {xs : List D} {cs : Cs} {P : DP} {Z : XZ} (h0 : 0 < xs.length) (h1 : xs.length < 100000) (hb : BagIn p cs) (h : ∀ x cs', x ∈ xs → BagStep p cs cs' → P x cs') : sp_law_pick [.opq (.ref p), .lst xs] cs P Z := ⟨p, xs, .inl rfl, h0, h1, hb, h⟩
theorem sc_law_pick : FnScope ["_law_bag_here", "_law_some"] ["_law_bag_here", "_law_some"] (defScope s_law_pick) := ⟨rfl, rfl, rfl, by decide +kernel, rfl, by decide +kernel, by decide +kernel⟩
theorem ok_law_pick {P : Program} {w : World} {K : PySem.W.Frag} {mg : Str → Option Value} {base : Heap} (T : Txt K mg base) : FnOk P w K mg base (L2.CX P w) 2 (He.ga K "_law_pick") T.fd_law_pick ["_law_bag_here", "_law_some"] (spL K 2 sp_law_pick) := by
  apply ok_def (k := 1) T.F_law_pick sc_law_pick
  case hb =>
    intro cdv A outer s H E hr
    exact (dss_one (ds_ret (d_sub_ix (d_var 1) (d_callN (ok_law_get T) (hr.mono (by decide)) rfl T.g_law_get T.F_law_get.kp (b_law_get T) takesD (da_cons (d_var 0) (da_cons (d_callB call_len_seq adq_len rfl T.n_len (by decide +kernel) (da_cons (d_var 1) da_nil)) da_nil))))))
  case hsp =>
    skip
    rintro ds cs Q Z ⟨p, xs, hds, h0, h1, hb, h⟩ _
    rcases hds with rfl | rfl
    all_goals
      show (_ : WS) (finD Q Z) [some _, some _] cs
      walk_at "go"
      refine ⟨p, (xs.length : Int), rfl, by omega, by omega, hb, fun r cs1 r0 r1 st => ?_⟩
      obtain ⟨x, hx, e⟩ := atD_mem r0 r1
      first
        | exact r_ixL e (h _ _ hx st)
        | exact r_ixT e (h _ _ hx st)
local macro_rules | `(tactic| walk_at "cl") => `(tactic| (first | ((with_reducible apply r_law_pick); (walk_at "in"); (walk_at "in"); (walk_at "bg"))))
def sp_law_sizes : DSp := fun ds cs P _ => ∃ (p : Addr) (m : Nat), ds = [.opq (.ref p), .int (m : Int)] ∧ 1 ≤ m ∧ m ≤ 1000 ∧ BagIn p cs ∧ ∀ zs cs', SzOk zs m → BagStep p cs cs' → P (.tup (zs.map D.int)) cs'
theorem r_law_sizes {p : Addr} {m : Nat} {cs : Cs} {P : DP} {Z : XZ} (m0 : 1 ≤ m) (m1 : m ≤ 1000) (hb : BagIn p cs) (h : ∀ zs cs', SzOk zs m → BagStep p cs cs' → P (.tup (zs.map D.int)) cs') : sp_law_sizes [.opq (.ref p), .int (m : Int)] cs P Z := ⟨p, m, rfl, m0, m1, hb, h⟩
theorem sc_law_sizes : FnScope ["_law_bag_here", "_law_many", "_law_found", "_law_left", "_law_kind", "_law_size"] ["_law_bag_here", "_law_many"] (defScope s_law_sizes) := ⟨rfl, rfl, rfl, by decide +kernel, rfl, by decide +kernel, by decide +kernel⟩
theorem ok_law_sizes {P : Program} {w : World} {K : PySem.W.Frag} {mg : Str → Option Value} {base : Heap} (T : Txt K mg base) : FnOk P w K mg base (L2.CX P w) 2 (He.ga K "_law_sizes") T.fd_law_sizes ["_law_bag_here", "_law_many"] (spL K 2 sp_law_sizes) := by
  apply ok_def (k := 1) T.F_law_sizes sc_law_sizes
  case hb =>
    intro cdv A outer s H E hr
    exact (dss_cons (ds_set (i := 2) sc_law_sizes.nd rfl (Or.inl rfl) (d_lstM da_nil))
      (dss_cons (ds_set (i := 3) sc_law_sizes.nd rfl (Or.inl rfl) (d_var 1))
      (dss_cons (ds_set (i := 4) sc_law_sizes.nd rfl (Or.inl rfl) (d_callN (ok_law_get T) (hr.mono (by decide)) rfl T.g_law_get T.F_law_get.kp (b_law_get T) takesD (da_cons (d_var 0) (da_cons d_int da_nil))))
      (dss_cons (ds_while passD (dt_gt (d_var 3) d_int) (dss_cons (ds_set (i := 5) sc_law_sizes.nd rfl (Or.inl rfl) (d_sub_ix (d_lst (da_cons (d_add d_int (d_callN (ok_law_get T) (hr.mono (by decide)) rfl T.g_law_get T.F_law_get.kp (b_law_get T) takesD (da_cons (d_var 0) (da_cons (d_var 3) da_nil)))) (da_cons d_int (da_cons (d_add d_int (d_callN (ok_law_get T) (hr.mono (by decide)) rfl T.g_law_get T.F_law_get.kp (b_law_get T) takesD (da_cons (d_var 0) (da_cons (d_callB (call_min2 rfl) adq_min2 rfl T.n_min (by decide +kernel) (da_cons (d_var 3) (da_cons d_int da_nil))) da_nil)))) da_nil)))) (d_var 4)))
      (dss_cons (ds_expr (d_append (d_var 2) (da_cons (d_var 5) da_nil)))
      (dss_one (ds_set (i := 3) sc_law_sizes.nd rfl (Or.inl rfl) (d_sub (d_var 3) (d_var 5)))))))
      (dss_one (ds_ret (d_callTy call_tuple_of adq_tuple rfl T.n_tuple (by decide +kernel) (da_cons (d_frz (d_var 2)) da_nil))))))))
  case hsp =>
    skip
    rintro ds cs Q Z ⟨p, m, rfl, m0, m1, hb, h⟩ _
    show (_ : WS) (finD Q Z) [some _, some _, none, none, none, none] cs
    walk_at "GO"
    intro q hq
    have hqp := hb.ne hq
    walk_at "GO"
    intro k cs1 k0 k1 st1
    obtain ⟨cs1', rfl, su1⟩ := st1.under hqp
    clear st1
    walk_at "GO"
    refine r_while (fun i ρ cs' => ∃ (c5 : Option D) (zs : List Int) (cs0 : Cs), ρ = [some (.opq (.ref p)), some (.int m), some (.opq (.ref q)), some (.int (i : Int)), some (.int k), c5] ∧ (∀ z ∈ zs, 1 ≤ z) ∧ zs.sum + i = m ∧ cs' = (q, .lst (zs.map D.int)) :: cs0 ∧ BagStep p cs cs0) ⟨m, ⟨_, [], cs1', rfl, ⟨fun _ h => (nomatch h), by simp, rfl, su1⟩⟩⟩ ?_
    rintro i ρ cs' N ⟨c5, zs, cs0, rfl, ⟨hp, hs, rfl, st⟩⟩ hN
    walk_at "GO"
    have hzl := len_le_sum hp
    refine ⟨fun hk => ?_, fun hk => ?_⟩
    · have i0 := decT hk
      walk_at "GO"
      intro g1 cs2 a0 a1 st2
      obtain ⟨cs2', rfl, su2⟩ := st2.under hqp
      clear st2
      walk_at "GO"
      intro g2 cs3 b0 b1 st3
      obtain ⟨cs3', rfl, su3⟩ := st3.under hqp
      clear st3
      walk_at "GO"
      have key : ∀ z : Int, 1 ≤ z → z ≤ i → N [some (.opq (.ref p)), some (.int m), some (.opq (.ref q)), some (.int ((i : Int) - z)), some (.int k), some (.int z)] ((q, .lst (zs.map D.int ++ [.int z])) :: cs3') := fun z z0 z1 =>
        hN (i - z.toNat) _ _ (by omega) ⟨_, zs ++ [z], cs3', by rw [show ((i - z.toNat : Nat) : Int) = (i : Int) - z by omega], fun x hx => by
          rcases List.mem_append.mp hx with hx | hx
          · exact hp x hx
          · rw [List.mem_singleton.mp hx]; exact z0, by rw [List.sum_append]; simp; omega, by rw [List.map_append]; rfl, (st.trans su2).trans su3⟩
      have hk3 : k = 0 ∨ k = 1 ∨ k = 2 := by omega
      rcases hk3 with rfl | rfl | rfl
      · refine r_ixL (d := .int (1 + g1)) rfl ?_
        walk_at "GO"
        exact key (1 + g1) (by omega) (by omega)
      · refine r_ixL (d := .int 1) rfl ?_
        walk_at "GO"
        exact key 1 (by omega) (by omega)
      · refine r_ixL (d := .int (1 + g2)) rfl ?_
        walk_at "GO"
        exact key (1 + g2) (by omega) (by split at b1 <;> omega)
    · have i0 := decF hk
      walk_at "GO"
      exact h zs _ ⟨hp, by omega⟩ st
local macro_rules | `(tactic| walk_at "cl") => `(tactic| (first | ((with_reducible apply r_law_sizes); (walk_at "in"); (walk_at "in"); (walk_at "bg"))))
def sp_law_lean : DSp := fun ds cs P _ => ∃ p, ds = [.opq (.ref p)] ∧ BagIn p cs ∧ ∀ dn cs', BagStep p cs cs' → P (sideD dn) cs'
theorem r_law_lean {p : Addr} {cs : Cs} {P : DP} {Z : XZ} (hb : BagIn p cs) (h : ∀ dn cs', BagStep p cs cs' → P (sideD dn) cs') : sp_law_lean [.opq (.ref p)] cs P Z := ⟨p, rfl, hb, h⟩
theorem sc_law_lean : FnScope ["_law_bag_here"] ["_law_bag_here"] (defScope s_law_lean) := ⟨rfl, rfl, rfl, by decide +kernel, rfl, by decide +kernel, by decide +kernel⟩
theorem ok_law_lean {P : Program} {w : World} {K : PySem.W.Frag} {mg : Str → Option Value} {base : Heap} (T : Txt K mg base) : FnOk P w K mg base (L2.CX P w) 2 (He.ga K "_law_lean") T.fd_law_lean ["_law_bag_here"] (spL K 1 sp_law_lean) := by
  apply ok_def (k := 1) T.F_law_lean sc_law_lean
  case hb =>
    intro cdv A outer s H E hr
    exact (dss_one (ds_ret (d_sub_ix (d_lst (da_cons d_str (da_cons d_str da_nil))) (d_callN (ok_law_get T) (hr.mono (by decide)) rfl T.g_law_get T.F_law_get.kp (b_law_get T) takesD (da_cons (d_var 0) (da_cons d_int da_nil))))))
  case hsp =>
    skip
    rintro ds cs Q Z ⟨p, rfl, hb, h⟩ _
    show (_ : WS) (finD Q Z) [some _] cs
    walk_at "go"
    refine ⟨p, 2, rfl, by decide, by decide, hb, fun g cs1 g0 g1 st => ?_⟩
    have hg : g = 0 ∨ g = 1 := by omega
    rcases hg with rfl | rfl
    · walk_at "go"
      exact h true _ st
    · walk_at "go"
      exact h false _ st
local macro_rules | `(tactic| walk_at "cl") => `(tactic| (first | ((with_reducible apply r_law_lean); (walk_at "bg"))))
theorem sc_law_ask : FnScope ["_law_ask_here", "_law_told", "_law_word", "e"] ["_law_ask_here"] (defScope s_law_ask) := ⟨rfl, rfl, rfl, by decide +kernel, rfl, by decide +kernel, by decide +kernel⟩
theorem tk_law_ask {P : Program} {w : World} {K : PySem.W.Frag} {mg : Str → Option Value} {base : Heap} (T : Txt K mg base) : TkOk P w K mg base 1 (He.ga K "_law_ask") (TTask K [.ref (He.ga K "CutError"), .ref (He.ga K "Missing"), .ref (He.ga K "NothingLeft")]) := tk_ask T.F_law_ask sc_law_ask (b_law_ask T) rfl rfl rfl rfl rfl rfl rfl T.g_CutError T.g_Missing T.g_NothingLeft (by decide) (by decide) (by intro env he; cases env; cases he; rfl)
theorem sc_law_why : FnScope ["_law_ask_here"] ["_law_ask_here"] (defScope s_law_why) := ⟨rfl, rfl, rfl, by decide +kernel, rfl, by decide +kernel, by decide +kernel⟩
theorem tk_law_why {P : Program} {w : World} {K : PySem.W.Frag} {mg : Str → Option Value} {base : Heap} (T : Txt K mg base) : TkOk P w K mg base 2 (He.ga K "_law_why") (TTwhy K [.ref (He.ga K "CutError"), .ref (He.ga K "Missing"), .ref (He.ga K "NothingLeft")]) := tk_why (tk_law_ask T) T.F_law_why sc_law_why (b_law_why T) rfl rfl T.g_law_ask T.F_law_ask.kp (by decide) (by decide) (by decide)
def sp_law_ends : DSp := fun ds cs P _ => ∃ l t w h : Rat, ds = [dB l t w h] ∧ Sz 1900 l ∧ Sz 1900 t ∧ Sz 1900 w ∧ Sz 1900 h ∧ P (.tup [dR l, dR (l + w), dR t, dR (t + h)]) cs
theorem r_law_ends {b : Bx} {cs : Cs} {P : DP} {Z : XZ} (hl : Sz 1900 b.l) (ht : Sz 1900 b.t) (hw : Sz 1900 b.w) (hh : Sz 1900 b.h) (h : P (.tup [dR b.l, dR (b.l + b.w), dR b.t, dR (b.t + b.h)]) cs) : sp_law_ends [b.d] cs P Z := ⟨b.l, b.t, b.w, b.h, rfl, hl, ht, hw, hh, h⟩
theorem sc_law_ends : FnScope ["_law_box"] ["_law_box"] (defScope s_law_ends) := ⟨rfl, rfl, rfl, by decide +kernel, rfl, by decide +kernel, by decide +kernel⟩
theorem ok_law_ends {P : Program} {w : World} {K : PySem.W.Frag} {mg : Str → Option Value} {base : Heap} (T : Txt K mg base) : FnOk P w K mg base (L2.CX P w) 4 (He.ga K "_law_ends") T.fd_law_ends ["_law_box"] (spL K 1 sp_law_ends) := by
  apply ok_def (k := 3) T.F_law_ends sc_law_ends
  case hb =>
    intro cdv A outer s H E hr
    exact (dss_one (ds_ret (d_tup (da_cons (d_sub_ix (d_var 0) d_int) (da_cons (d_callN (ok_law_plus T) (hr.mono (by decide)) rfl T.g_law_plus T.F_law_plus.kp (b_law_plus T) takesD (da_cons (d_sub_ix (d_var 0) d_int) (da_cons (d_sub_ix (d_var 0) d_int) da_nil))) (da_cons (d_sub_ix (d_var 0) d_int) (da_cons (d_callN (ok_law_plus T) (hr.mono (by decide)) rfl T.g_law_plus T.F_law_plus.kp (b_law_plus T) takesD (da_cons (d_sub_ix (d_var 0) d_int) (da_cons (d_sub_ix (d_var 0) d_int) da_nil))) da_nil)))))))
  case hsp =>
    skip
    rintro ds cs Q Z ⟨l, t, wd, hg, rfl, sl, st, sw, sh, h⟩ _
    show (_ : WS) (finD Q Z) [some _] cs
    unfold dB
    walk_at "go"
    refine ⟨l, wd, rfl, sl.mono (by decide), sw.mono (by decide), ?_⟩
    walk_at "go"
    refine ⟨t, hg, rfl, st.mono (by decide), sh.mono (by decide), ?_⟩
    walk_at "go"
    exact h
local macro_rules | `(tactic| walk_at "cl") => `(tactic| (first | ((with_reducible apply r_law_ends); (walk_at "sz"); (walk_at "sz"); (walk_at "sz"); (walk_at "sz"))))
def sp_law_names : DSp := fun ds cs P _ => ∃ (p : Addr) (m : Nat), ds = [.opq (.ref p), .int (m : Int)] ∧ m ≤ 26 ∧ BagIn p cs ∧ ∀ ns cs', NamesOk ns m → BagStep p cs cs' → P (.lst (ns.map D.str)) cs'
theorem r_law_names {p : Addr} {m : Nat} {cs : Cs} {P : DP} {Z : XZ} (hm : m ≤ 26) (hb : BagIn p cs) (h : ∀ ns cs', NamesOk ns m → BagStep p cs cs' → P (.lst (ns.map D.str)) cs') : sp_law_names [.opq (.ref p), .int (m : Int)] cs P Z := ⟨p, m, rfl, hm, hb, h⟩
theorem sc_law_names : FnScope ["_law_bag_here", "_law_many", "_law_letters", "_law_k", "_law_size", "_law_place", "_law_same", "_law_unlike", "_law_begin", "_law_step", "_law_found", "_law_row", "_law_at"] ["_law_bag_here", "_law_many"] (defScope s_law_names) := ⟨rfl, rfl, rfl, by decide +kernel, rfl, by decide +kernel, by decide +kernel⟩
theorem ok_law_names {P : Program} {w : World} {K : PySem.W.Frag} {mg : Str → Option Value} {base : Heap} (T : Txt K mg base) : FnOk P w K mg base (L2.CX P w) 3 (He.ga K "_law_names") T.fd_law_names ["_law_bag_here", "_law_many"] (spL K 2 sp_law_names) := by
  apply ok_def (k := 2) T.F_law_names sc_law_names
  case hb =>
    intro cdv A outer s H E hr
    exact (dss_cons (ds_set (i := 2) sc_law_names.nd rfl (Or.inr rfl) d_str)
      (dss_cons (ds_if (dt_gt (d_var 1) d_int) dss_never dss_nil)
      (dss_cons (ds_set (i := 4) sc_law_names.nd rfl (Or.inl rfl) (d_add d_int (d_callN (ok_law_get T) (hr.mono (by decide)) rfl T.g_law_get T.F_law_get.kp (b_law_get T) takesD (da_cons (d_var 0) (da_cons d_int da_nil)))))
      (dss_cons (ds_set (i := 5) sc_law_names.nd rfl (Or.inl rfl) (d_callN (ok_law_get T) (hr.mono (by decide)) rfl T.g_law_get T.F_law_get.kp (b_law_get T) takesD (da_cons (d_var 0) (da_cons (d_var 4) da_nil))))
      (dss_cons (ds_setLc (i := 6) rfl sc_law_names.nd rfl rfl (sw_true rfl rfl rfl (by decide +kernel)) (di_range1 rfl T.n_range (da_cons (d_var 4) da_nil)) (blkOk_by (own := [("_law_k", 3)]) (N := ["_law_bag_here", "_law_many", "_law_letters", "_law_k", "_law_size", "_law_place", "_law_same", "_law_unlike", "_law_begin", "_law_step", "_law_found", "_law_row", "_law_at"]) (sc := defScope s_law_names) (by decide +kernel)) (gok_name (by decide)) (fun _ _ _ _ _ => (pg_name (i := 3) sc_law_names.nd rfl (Or.inl rfl))) (fun _ _ _ _ _ => dts_nil) (fun _ _ _ _ _ => (d_ixS (d_var 2) (d_callN (ok_law_get T) (hr.mono (by decide)) rfl T.g_law_get T.F_law_get.kp (b_law_get T) takes0 (da_cons (d_var 0) (da_cons d_int da_nil))))))
      (dss_cons (ds_par3 (i := 7) (j := 8) (l := 9) rfl sc_law_names.nd rfl rfl rfl (by decide) (by decide) (by decide) rfl rfl rfl (da_cons (d_callN (ok_law_get T) (hr.mono (by decide)) rfl T.g_law_get T.F_law_get.kp (b_law_get T) takesD (da_cons (d_var 0) (da_cons d_int da_nil))) (da_cons (d_callN (ok_law_get T) (hr.mono (by decide)) rfl T.g_law_get T.F_law_get.kp (b_law_get T) takesD (da_cons (d_var 0) (da_cons d_int da_nil))) (da_cons (d_callN (ok_law_pick T) (hr.mono (by decide)) rfl T.g_law_pick T.F_law_pick.kp (b_law_pick T) takesD (da_cons (d_var 0) (da_cons (d_lst (da_cons d_int (da_cons d_int (da_cons d_int (da_cons d_int (da_cons d_int (da_cons d_int (da_cons d_int (da_cons d_int da_nil))))))))) da_nil))) da_nil))))
      (dss_cons (ds_set (i := 10) sc_law_names.nd rfl (Or.inl rfl) (d_lstM da_nil))
      (dss_cons (ds_for passD rfl (di_range1 rfl T.n_range (da_cons (d_var 1) da_nil)) (dg_name (i := 3) sc_law_names.nd rfl (Or.inl rfl)) (dss_cons (ds_set (i := 11) sc_law_names.nd rfl (Or.inl rfl) (d_callTy call_list_of adq_listM rfl T.n_list (by decide +kernel) (da_cons (d_var 6) da_nil)))
      (dss_cons (ds_if (dt_eq hr.units (d_var 7) d_int) (dss_one (ds_goneA (ds_setLcM (i := 11) rfl sc_law_names.nd rfl rfl (sw_true rfl rfl rfl (by decide +kernel)) (di_range1 rfl T.n_range (da_cons (d_add (d_add (d_var 5) d_int) (d_callN (ok_law_get T) (hr.mono (by decide)) rfl T.g_law_get T.F_law_get.kp (b_law_get T) takesD (da_cons (d_var 0) (da_cons (d_sub d_int (d_var 5)) da_nil)))) da_nil)) (blkOk_by (own := [("_law_at", 12)]) (N := ["_law_bag_here", "_law_many", "_law_letters", "_law_k", "_law_size", "_law_place", "_law_same", "_law_unlike", "_law_begin", "_law_step", "_law_found", "_law_row", "_law_at"]) (sc := defScope s_law_names) (by decide +kernel)) (gok_name (by decide)) (fun _ _ _ _ _ => (pg_name (i := 12) sc_law_names.nd rfl (Or.inl rfl))) (fun _ _ _ _ _ => dts_nil) (fun _ _ _ _ _ => (d_ixS (d_var 2) (d_callN (ok_law_get T) (hr.mono (by decide)) rfl T.g_law_get T.F_law_get.kp (b_law_get T) takes0 (da_cons (d_var 0) (da_cons d_int da_nil)))))))) dss_nil)
      (dss_cons (ds_frzA 11 (ds_setix (d_ixS (d_var 2) (d_mod (d_add (d_var 8) (d_mul (d_var 9) (d_var 3))) d_int)) (d_var 11) (d_var 5)))
      (dss_one (ds_expr (d_append (d_var 10) (da_cons (d_join d_str (d_var 11)) da_nil))))))))
      (dss_one (ds_ret (d_frz (d_var 10))))))))))))
  case hsp =>
    skip
    rintro ds cs Q Z ⟨p, m, rfl, hm, hb, h⟩ _
    show (_ : WS) (finD Q Z) [some _, some _, none, none, none, none, none, none, none, none, none, none, none] cs
    walk_at "GO"
    rw [show Str.ofString "abcdefghijklmnopqrstuvwxyz" = lettersS from rfl]
    have hll : lettersS.length ≤ 100000 := by decide +kernel
    refine r_neg_ (by omega) ?_
    walk_at "GO"
    intro g ca g0 g1 st1
    walk_at "GO"
    intro pl cb pl0 pl1 st2
    walk_at "GO"
    refine ⟨by omega, by rw [rng_len]; omega, ?_⟩
    refine r_comp0 (fun i acc cs' => ∃ l : List Nat, acc = l.map sgn ∧ l.length = i ∧ (∀ c ∈ l, 97 ≤ c ∧ c ≤ 122) ∧ BagStep p cb cs') ⟨[], rfl, rfl, fun _ h => (nomatch h), .refl st2.bag⟩ ?_ ?_
    · rintro i d acc cc N hd ⟨l, rfl, hl, hlow, st3⟩ hN
      have hb3 := st3.bag
      walk_at "GO"
      intro x cd x0 x1 st4
      walk_at "GO"
      refine r_ixS hll (letter_at x0 x1) ?_
      refine hN _ _ ⟨l ++ [97 + x.toNat], by rw [List.map_append]; rfl, by rw [List.length_append, hl]; rfl, fun c hc => ?_, st3.trans st4⟩
      rcases List.mem_append.mp hc with hc | hc
      · exact hlow c hc
      · rw [List.mem_singleton.mp hc]; omega
    rintro acc cc ⟨l, rfl, hl, hlow, st3⟩
    rw [rng_len] at hl
    have hb3 := st3.bag
    walk_at "GO"
    intro un cd un0 un1 st4
    walk_at "GO"
    intro bg ce b0 b1 st5
    walk_at "GO"
    intro sd cf hsd st6
    obtain ⟨sp, rfl, hsp⟩ : ∃ s : Int, sd = .int s ∧ s ∈ ([1, 3, 5, 7, 9, 11, 15, 25] : List Int) := by
      simp only [List.mem_cons, List.not_mem_nil, or_false] at hsd
      rcases hsd with rfl | rfl | rfl | rfl | rfl | rfl | rfl | rfl <;> exact ⟨_, rfl, by simp⟩
    have sp0 : 1 ≤ sp ∧ sp ≤ 25 := by
      simp only [List.mem_cons, List.not_mem_nil, or_false] at hsp
      omega
    have stA := ((((st1.trans st2).trans st3).trans st4).trans st5).trans st6
    have hbf := stA.bag
    clear st1 st2 st3 st4 st5 st6 hb3 hsd
    walk_at "GO"
    intro q hq
    have hqp := hbf.ne hq
    walk_at "GO"
    refine ⟨by omega, ?_⟩
    refine r_loop0 (fun i ρ cs' => ∃ (c3 c11 c12 : Option D) (fs : List Str) (cs0 : Cs), ρ = [some (.opq (.ref p)), some (.int (m : Int)), some (.str lettersS), c3, some (.int (1 + g)), some (.int pl), some (.lst (l.map sgn)), some (.int un), some (.int bg), some (.int sp), some (.opq (.ref q)), c11, c12] ∧ cs' = (q, .lst (fs.map D.str)) :: cs0 ∧ BagStep p cf cs0 ∧ fs.length = i ∧ (∀ x ∈ fs, LowOk x) ∧ ∀ (j : Nat) (x : Str), fs[j]? = some x → (TL.tl x)[pl.toNat]? = some (97 + ((bg + sp * (j : Int)) % 26).toNat)) ⟨_, _, _, [], cf, rfl, ⟨rfl, .refl hbf, rfl, fun _ h => (nomatch h), fun j x h => by simp at h⟩⟩ ?_ ?_
    · rintro i d ρ cs' N hd ⟨c3, c11, c12, fs, cs0, rfl, ⟨rfl, stB, hfl, hfo, hfx⟩⟩ hN
      obtain ⟨rfl, hi⟩ := rng_get hd
      have hi : i < m := by simpa using hi
      have hbb := stB.bag
      refine r_seq ?_
      walk_at "G1"
      intro r hr
      have hrp : p ≠ r := (BagIn.over hqp hbb).ne hr
      have hrq : r ≠ q := fun e => hr (by rw [e]; exact List.mem_cons_self ..)
      walk_at "G1"
      refine r_key (fun ρ cs' => ∃ (c12 : Option D) (r2 : Addr) (ls : List Nat) (c0 : Cs), ρ = [some (.opq (.ref p)), some (.int (m : Int)), some (.str lettersS), some (.int (0 + (i : Int))), some (.int (1 + g)), some (.int pl), some (.lst (l.map sgn)), some (.int un), some (.int bg), some (.int sp), some (.opq (.ref q)), some (.opq (.ref r2)), c12] ∧ cs' = (r2, .lst (ls.map sgn)) :: (q, .lst (fs.map D.str)) :: c0 ∧ BagStep p cs0 c0 ∧ r2 ≠ q ∧ p ≠ r2 ∧ pl.toNat < ls.length ∧ ls.length ≤ 8 ∧ ∀ c ∈ ls, 97 ≤ c ∧ c ≤ 122) ?_ (fun nx key => ?_)
      case refine_2 =>
        walk_at "GO"
        refine ⟨fun hk => ?_, fun hk => ?_⟩
        · walk_at "GO"
          intro x cx x0 x1 st
          obtain ⟨cy, rfl, su⟩ := st.under hrp
          obtain ⟨cz, rfl, su2⟩ := su.under hqp
          have hbz := su2.bag
          clear st su
          walk_at "GO"
          refine ⟨by omega, by rw [rng_len]; omega, ?_⟩
          refine r_comp0 (fun i acc cs' => ∃ (ls : List Nat) (c' : Cs), cs' = (r, .lst (l.map sgn)) :: (q, .lst (fs.map D.str)) :: c' ∧ acc = ls.map sgn ∧ ls.length = i ∧ (∀ c ∈ ls, 97 ≤ c ∧ c ≤ 122) ∧ BagStep p cs0 c') ⟨[], cz, rfl, rfl, rfl, fun _ h => (nomatch h), su2⟩ ?_ ?_
          · rintro i2 d2 acc cc N2 hd2 ⟨ls, c', rfl, rfl, hls, hlow2, st3⟩ hN2
            have hb3 := st3.bag
            walk_at "GO"
            intro y cd y0 y1 st4
            obtain ⟨cy, rfl, su⟩ := st4.under hrp
            obtain ⟨cz2, rfl, su3⟩ := su.under hqp
            walk_at "GO"
            refine r_ixS hll (letter_at y0 y1) ?_
            refine hN2 _ _ ⟨ls ++ [97 + y.toNat], cz2, rfl, by rw [List.map_append]; rfl, by rw [List.length_append, hls]; rfl, fun c hc => ?_, st3.trans su3⟩
            rcases List.mem_append.mp hc with hc | hc
            · exact hlow2 c hc
            · rw [List.mem_singleton.mp hc]; omega
          rintro acc cc ⟨ls, c', rfl, rfl, hls, hlow2, st3⟩
          rw [rng_len] at hls
          have hb3 := st3.bag
          walk_at "GO"
          intro r2 hr2
          have hrr : r2 ≠ r := fun e => hr2 (by rw [e]; exact List.mem_cons_self ..)
          have hrq2 : r2 ≠ q := fun e => hr2 (by rw [e]; exact List.mem_cons_of_mem _ (List.mem_cons_self ..))
          have hrp2 : p ≠ r2 := (BagIn.over hrp (BagIn.over hqp hb3)).ne hr2
          refine ⟨r, _, look_2 hrr, ?_⟩
          rw [show DL.del r ((r2, MO.lst (ls.map sgn)) :: (r, MO.lst (l.map sgn)) :: (q, MO.lst (fs.map D.str)) :: c') = (r2, MO.lst (ls.map sgn)) :: (q, MO.lst (fs.map D.str)) :: c' by simp [DL.del, hrr]]
          exact key _ _ ⟨_, r2, ls, c', rfl, ⟨rfl, st3, hrq2, hrp2, by omega, by omega, hlow2⟩⟩
        · walk_at "GO"
          exact key _ _ ⟨_, r, l, cs0, rfl, ⟨rfl, .refl hbb, hrq, hrp, by omega, by omega, hlow⟩⟩
      rintro ρ cv ⟨c12, r2, ls, c0, rfl, ⟨rfl, stC, hrq2, hrp2, hl1, hl2, hlow2⟩⟩
      have k0 : 0 ≤ (bg + sp * (0 + (i : Int))) % 26 := Int.emod_nonneg _ (by decide)
      have k1 : (bg + sp * (0 + (i : Int))) % 26 < 26 := Int.emod_lt_of_pos _ (by decide)
      have ek : (bg + sp * (0 + (i : Int))) % 26 = (bg + sp * (i : Int)) % 26 := by rw [Int.zero_add]
      refine r_seq ?_
      walk_at "GO"
      refine r_ixS hll (letter_at k0 k1) ?_
      rw [ek] at *
      generalize hcc : (bg + sp * (i : Int)) % 26 = cc at k0 k1 ⊢
      walk_at "GO"
      refine r_setL look_hd (j := pl.toNat) (by unfold ixN; rw [if_pos pl0, if_pos (by rw [List.length_map]; omega)]) ?_
      rw [put_hd]
      refine ⟨r2, _, rfl, look_hd, ?_⟩
      rw [del_hd, show (ls.map sgn).set pl.toNat (sgn (97 + cc.toNat)) = (ls.set pl.toNat (97 + cc.toNat)).map sgn from List.map_set.symm]
      walk_at "GO"
      refine r_joinS (strsOf_sgn _) (by
        rw [sum_sgn, List.length_map, List.length_set, show (Str.ofString "").length = 0 from rfl, Nat.mul_zero]; omega) ?_
      rw [join_sgn]
      walk_at "GO"
      have hset : (ls.set pl.toNat (97 + cc.toNat)).length = ls.length := List.length_set
      refine hN _ _ ⟨_, _, _, fs ++ [mkS (ls.set pl.toNat (97 + cc.toNat))], c0, rfl, ⟨by rw [List.map_append]; rfl, stB.trans stC, by rw [List.length_append, hfl]; rfl, fun x hx => ?_, fun j x hx => ?_⟩⟩
      · rcases List.mem_append.mp hx with hx | hx
        · exact hfo x hx
        · rw [List.mem_singleton.mp hx]
          refine ⟨by rw [TL.len_tl, tl_mkS]; omega, by rw [TL.len_tl, tl_mkS]; omega, fun c hc => ?_⟩
          rw [tl_mkS] at hc
          rcases List.mem_or_eq_of_mem_set hc with hc | hc
          · exact hlow2 c hc
          · rw [hc]; omega
      · by_cases hj : j < fs.length
        · rw [List.getElem?_append_left hj] at hx
          exact hfx j x hx
        · rw [List.getElem?_append_right (by omega)] at hx
          have hj2 : j - fs.length = 0 := by
            cases hq2 : j - fs.length with
            | zero => rfl
            | succ n => rw [hq2] at hx; simp at hx
          rw [hj2] at hx
          have e : mkS (ls.set pl.toNat (97 + cc.toNat)) = x := by simpa using hx
          rw [← e, tl_mkS, List.getElem?_set_self hl1, show (j : Int) = i by omega, hcc]
    · rintro ρ cs' ⟨c3, c11, c12, fs, cs0, rfl, ⟨rfl, stB, hfl, hfo, hfx⟩⟩
      rw [rng_len] at hfl
      walk_at "GO"
      exact h fs cs0 ⟨by simpa using hfl, nodup_at hsp (by rw [hfl]; simpa using hm) hfx, hfo⟩ (stA.trans stB)
local macro_rules | `(tactic| walk_at "cl") => `(tactic| (first | ((with_reducible apply r_law_names); (walk_at "in"); (walk_at "bg"))))
def sp_law_near_line : DSp := fun ds cs P _ => ∃ (r : Rat) (W n : Int), ds = [.int (lnR r W n), dR r, .int W, .int n] ∧ Sz 1900 r ∧ (0 < W ∧ W ≤ 1000) ∧ (0 ≤ n ∧ n ≤ 40) ∧ 0 ≤ r ∧ r ≤ (W : Rat) ∧ P (.bl true) cs
theorem r_law_near_line {r : Rat} {W n : Int} {cs : Cs} {P : DP} {Z : XZ} (hr : Sz 1900 r) (h0 : 0 < W ∧ W ≤ 1000) (h2 : 0 ≤ n ∧ n ≤ 40) (h3 : 0 ≤ r) (h4 : r ≤ (W : Rat)) (h : P (.bl true) cs) : sp_law_near_line [.int (lnR r W n), dR r, .int W, .int n] cs P Z := ⟨r, W, n, rfl, hr, h0, h2, h3, h4, h⟩
theorem r_law_near_lineE {r : Rat} {W n k : Int} {cs : Cs} {P : DP} {Z : XZ} (e : lnR r W n = k) (hr : Sz 1900 r) (h0 : 0 < W ∧ W ≤ 1000) (h2 : 0 ≤ n ∧ n ≤ 40) (h3 : 0 ≤ r) (h4 : r ≤ (W : Rat)) (h : P (.bl true) cs) : sp_law_near_line [.int k, dR r, .int W, .int n] cs P Z := by
  subst e; exact r_law_near_line hr h0 h2 h3 h4 h
theorem sc_law_near_line : FnScope ["_law_line", "_law_spot", "_law_whole_now", "_law_many", "_law_far"] ["_law_line", "_law_spot", "_law_whole_now", "_law_many"] (defScope s_law_near_line) := ⟨rfl, rfl, rfl, by decide +kernel, rfl, by decide +kernel, by decide +kernel⟩
theorem ok_law_near_line {P : Program} {w : World} {K : PySem.W.Frag} {mg : Str → Option Value} {base : Heap} (T : Txt K mg base) : FnOk P w K mg base (L2.CX P w) 1 (He.ga K "_law_near_line") T.fd_law_near_line ["_law_line", "_law_spot", "_law_whole_now", "_law_many"] (spL K 4 sp_law_near_line) := by
  apply ok_def (k := 0) T.F_law_near_line sc_law_near_line
  case hb =>
    intro cdv A outer s H E hr
    exact (dss_cons (ds_set (i := 4) sc_law_near_line.nd rfl (Or.inl rfl) (d_callB call_abs adq_abs rfl T.n_abs (by decide +kernel) (da_cons (d_sub (d_mul (d_mul (d_var 0) (d_var 2)) (d_sub_ix (d_var 1) d_int)) (d_mul (d_sub_ix (d_var 1) d_int) (d_var 3))) da_nil)))
      (dss_one (ds_ret (d_le (d_mul d_int (d_var 4)) (d_mul (d_var 2) (d_sub_ix (d_var 1) d_int))))))
  case hsp =>
    skip
    rintro ds cs Q Z ⟨r, W, n, rfl, hr, ⟨h0, h1⟩, ⟨h2, h3⟩, h4, h5, h⟩ _
    have hn := hr.1
    have hd := hr.2
    have hin := lnR_in (r := r) (n := n) h0
    have hbd := lnR_bd (n := n) h0 h2 h4 h5
    generalize lnR r W n = k at hin hbd
    have d0 : 0 < (r.den : Int) * W := Int.mul_pos (den_pos r) h0
    have e1 : (r.den : Int) * W * (2 * k - 1) = 2 * (k * W * (r.den : Int)) - (r.den : Int) * W := by grind
    have e2 : (r.den : Int) * W * (2 * k + 1) = 2 * (k * W * (r.den : Int)) + (r.den : Int) * W := by grind
    rw [e1, e2] at hin
    have m1 : IntMulOk r.num n := DL.mulOk_of (a := 1900) (b := 6) hn (by omega) (by decide)
    have m2 : IntMulOk k W := DL.mulOk_of (a := 6) (b := 10) (by omega) (by omega) (by decide)
    have m3 : IntMulOk (k * W) (r.den : Int) := DL.mulOk_of (a := 16) (b := 1900) (by
      have : k * W ≤ 40 * 1000 := Int.mul_le_mul (by omega) h1 (by omega) (by omega)
      have : 0 ≤ k * W := Int.mul_nonneg (by omega) (by omega)
      omega) (by rw [Int.natAbs_natCast]; exact hd) (by decide)
    have m4 : IntMulOk W (r.den : Int) := DL.mulOk_of (a := 10) (b := 1900) (by omega) (by rw [Int.natAbs_natCast]; exact hd) (by decide)
    have e3 : W * (r.den : Int) = (r.den : Int) * W := Int.mul_comm _ _
    show (_ : WS) (finD Q Z) [some _, some _, some _, some _, none] cs
    walk_at "GO"
    rw [decide_eq_true (by
      rw [e3]
      split <;> omega)]
    exact h
def spotsL (f : Nat → Nat → Bool) (R C : Nat) : List (Nat × Nat) := (List.range R).flatMap fun r => ((List.range C).filter (f r)).map fun c => (r, c)
theorem spotsL_mem {f : Nat → Nat → Bool} {R C r c : Nat} : (r, c) ∈ spotsL f R C ↔ r < R ∧ c < C ∧ f r c = true := by
  unfold spotsL
  rw [List.mem_flatMap]
  constructor
  · rintro ⟨r', hr, hm⟩
    obtain ⟨c', hc, e⟩ := List.mem_map.mp hm
    cases e
    obtain ⟨h1, h2⟩ := List.mem_filter.mp hc
    exact ⟨List.mem_range.mp hr, List.mem_range.mp h1, h2⟩
  · rintro ⟨h1, h2, h3⟩
    exact ⟨r, List.mem_range.mpr h1, List.mem_map.mpr ⟨c, List.mem_filter.mpr ⟨List.mem_range.mpr h2, h3⟩, rfl⟩⟩
theorem spotsL_more (f : Nat → Nat → Bool) (R C : Nat) : spotsL f (R + 1) C = spotsL f R C ++ ((List.range C).filter (f R)).map fun c => (R, c) := by
  unfold spotsL
  rw [List.range_succ, List.flatMap_append]; simp
theorem spotsL_pw (f : Nat → Nat → Bool) (C : Nat) : ∀ R, (spotsL f R C).Pairwise fun x y => x.1 ≤ y.1
  | 0 => .nil
  | R + 1 => by
    rw [spotsL_more, List.pairwise_append]
    refine ⟨spotsL_pw f C R, ?_, fun x hx y hy => ?_⟩
    · refine List.pairwise_of_forall_mem_list fun x hx y hy => ?_
      obtain ⟨_, _, rfl⟩ := List.mem_map.mp hx
      obtain ⟨_, _, rfl⟩ := List.mem_map.mp hy
      exact Nat.le_refl _
    · obtain ⟨r, c⟩ := x
      have := (spotsL_mem.mp hx).1
      obtain ⟨_, _, rfl⟩ := List.mem_map.mp hy
      exact Nat.le_of_lt this
theorem cnt_cols (a e : Nat) : ∀ n, ((List.range n).countP fun c => decide (a ≤ c ∧ c < e)) = (if n ≤ e then n else e) - a
  | 0 => by simp
  | n + 1 => by
    rw [List.range_succ, List.countP_append, cnt_cols a e n, List.countP_singleton]
    by_cases h : a ≤ n ∧ n < e
    · rw [if_pos (decide_eq_true h)]
      split <;> split <;> omega
    · rw [if_neg (fun z => h (of_decide_eq_true z))]
      split <;> split <;> omega
theorem spotsL_len {f : Nat → Nat → Bool} {C t u a e : Nat} (he : e ≤ C) : ∀ R, (∀ r c, r < R → c < C → (f r c = true ↔ (t ≤ r ∧ r < u) ∧ a ≤ c ∧ c < e)) → (spotsL f R C).length = ((if R ≤ u then R else u) - t) * (e - a)
  | 0, _ => by simp [spotsL]
  | R + 1, h => by
    rw [spotsL_more, List.length_append, spotsL_len he R fun r c hr hc => h r c (by omega) hc, List.length_map, ← List.countP_eq_length_filter]
    by_cases hr : t ≤ R ∧ R < u
    · have e1 : (List.range C).countP (f R) = (List.range C).countP fun c => decide (a ≤ c ∧ c < e) := List.countP_congr fun c hc => by
        rw [h R c (by omega) (List.mem_range.mp hc), decide_eq_true_eq]
        exact ⟨fun z => z.2, fun z => ⟨hr, z⟩⟩
      rw [e1, cnt_cols]
      have e2 : (if C ≤ e then C else e) = e := by split <;> omega
      have e3 : (if R + 1 ≤ u then R + 1 else u) - t = (if R ≤ u then R else u) - t + 1 := by split <;> split <;> omega
      rw [e2, e3, Nat.add_mul, Nat.one_mul]
    · have e1 : (List.range C).countP (f R) = 0 := List.countP_eq_zero.mpr fun c hc z => hr ((h R c (by omega) (List.mem_range.mp hc)).mp z).1
      have e3 : (if R + 1 ≤ u then R + 1 else u) - t = (if R ≤ u then R else u) - t := by split <;> split <;> omega
      rw [e1, e3, Nat.add_zero]
theorem spotsL_le (f : Nat → Nat → Bool) (C : Nat) : ∀ R, (spotsL f R C).length ≤ R * C
  | 0 => by simp [spotsL]
  | R + 1 => by
    rw [spotsL_more, List.length_append, List.length_map]
    have h1 := spotsL_le f C R
    have h2 := List.length_filter_le (f R) (List.range C)
    rw [List.length_range] at h2
    rw [Nat.add_mul, Nat.one_mul]; omega
def sqD (q : Nat × Nat) : D := .tup [.int (q.1 : Int), .int (q.2 : Int)]
theorem plD_sq (l : List (Nat × Nat)) (h : l.length ≤ 100000) : plD 20 (.lst (l.map sqD)) = true := plD_lI (plL_of fun d hd => by
  obtain ⟨q, _, rfl⟩ := List.mem_map.mp hd
  rfl) (by rw [List.length_map]; exact h)
abbrev tbD (K : PySem.W.Frag) : List (Addr × Str) := [(tabA K "law", "law.<locals>.<lambda>")]
def sp_law (K : PySem.W.Frag) : DSp := sp_lawT (tbls (tbD K))
theorem any_false {α : Type} (l : List α) : (l.map fun _ => false).any id = false := by
  rw [List.any_map, List.any_eq_false]
  intro x _ h
  cases h
theorem all_true {α : Type} (l : List α) : (l.map fun _ => true).all id = true := by
  rw [List.all_map, List.all_eq_true]
  intro x _; rfl
theorem sc_law : FnScope ["_law_script", "_law_bag_here", "_law_wide", "_law_high", "_law_weights_here", "_law_boxes_now", "_law_named", "_law_columns", "_law_rows", "_law_found", "_law_row", "_law_one", "_law_name", "_law_spots", "_law_at", "_law_column", "_law_lines", "_law_left", "_law_right", "_law_top", "_law_bottom", "_law_good", "_law_bad", "_law_words"] ["_law_script"] (defScope s_law) := ⟨rfl, rfl, rfl, by decide +kernel, rfl, by decide +kernel, by decide +kernel⟩
theorem ok_law {P : Program} {w : World} {K : PySem.W.Frag} {mg : Str → Option Value} {base : Heap} (T : Txt K mg base) : FnOk P w K mg base (L2.CX P w) 12 (He.ga K "law") T.fd_law ["_law_script"] (spL K 1 (sp_law K)) := by
  apply ok_defC (k := 11) T.F_law T.cd_law sc_law
  case hb =>
    intro A outer s H E hr
    exact (dss_cons (ds_set (i := 1) sc_law.nd rfl (Or.inl rfl) (d_callN (ok_law_bag T) (hr.mono (by decide)) rfl T.g_law_bag T.F_law_bag.kp (b_law_bag T) takesD (da_cons (d_var 0) da_nil)))
      (dss_cons (ds_asg (d_tup (da_cons (d_add d_int (d_callN (ok_law_get T) (hr.mono (by decide)) rfl T.g_law_get T.F_law_get.kp (b_law_get T) takesD (da_cons (d_var 1) (da_cons d_int da_nil)))) (da_cons (d_add d_int (d_callN (ok_law_get T) (hr.mono (by decide)) rfl T.g_law_get T.F_law_get.kp (b_law_get T) takesD (da_cons (d_var 1) (da_cons d_int da_nil)))) da_nil))) (dg_tup (n := 2) rfl (dgs_cons (dg_name (i := 2) sc_law.nd rfl (Or.inr rfl)) (dgs_cons (dg_name (i := 3) sc_law.nd rfl (Or.inr rfl)) dgs_nil))))
      (dss_cons (ds_set (i := 4) sc_law.nd rfl (Or.inl rfl) (d_callN (ok_law_weights T) (hr.mono (by decide)) rfl T.g_law_weights T.F_law_weights.kp (b_law_weights T) takesD (da_cons (d_var 1) (da_cons d_int da_nil))))
      (dss_cons (ds_set (i := 5) sc_law.nd rfl (Or.inl rfl) (d_callN (ok_law_laid T) (hr.mono (by decide)) rfl T.g_law_laid T.F_law_laid.kp (b_law_laid T) takesD (da_cons (d_tup (da_cons (d_tup (da_cons d_int (da_cons d_int da_nil))) (da_cons (d_tup (da_cons d_int (da_cons d_int da_nil))) (da_cons (d_tup (da_cons (d_var 2) (da_cons d_int da_nil))) (da_cons (d_tup (da_cons (d_var 3) (da_cons d_int da_nil))) da_nil))))) (da_cons (d_var 4) (da_cons (d_callN (ok_law_sizes T) (hr.mono (by decide)) rfl T.g_law_sizes T.F_law_sizes.kp (b_law_sizes T) takesD (da_cons (d_var 1) (da_cons (d_callB call_len_seq adq_len rfl T.n_len (by decide +kernel) (da_cons (d_var 4) da_nil)) da_nil))) (da_cons (d_callN (ok_law_lean T) (hr.mono (by decide)) rfl T.g_law_lean T.F_law_lean.kp (b_law_lean T) takesD (da_cons (d_var 1) da_nil)) da_nil))))))
      (dss_cons (ds_set (i := 6) sc_law.nd rfl (Or.inr rfl) (d_lockD (d_callTy (call_dictP rfl) adq_dictP rfl T.n_dict (by decide +kernel) (da_cons (d_listZ rfl rfl T.n_list rfl T.n_zip (da_cons (d_callN (ok_law_names T) (hr.mono (by decide)) rfl T.g_law_names T.F_law_names.kp (b_law_names T) takesD (da_cons (d_var 1) (da_cons (d_callB call_len_seq adq_len rfl T.n_len (by decide +kernel) (da_cons (d_var 4) da_nil)) da_nil))) (da_cons (d_var 5) da_nil))) da_nil))))
      (dss_cons (ds_asg (d_tup (da_cons (d_add d_int (d_callN (ok_law_get T) (hr.mono (by decide)) rfl T.g_law_get T.F_law_get.kp (b_law_get T) takesD (da_cons (d_var 1) (da_cons d_int da_nil)))) (da_cons (d_add d_int (d_callN (ok_law_get T) (hr.mono (by decide)) rfl T.g_law_get T.F_law_get.kp (b_law_get T) takesD (da_cons (d_var 1) (da_cons d_int da_nil)))) da_nil))) (dg_tup (n := 2) rfl (dgs_cons (dg_name (i := 7) sc_law.nd rfl (Or.inr rfl)) (dgs_cons (dg_name (i := 8) sc_law.nd rfl (Or.inr rfl)) dgs_nil))))
      (dss_cons (ds_set (i := 9) sc_law.nd rfl (Or.inl rfl) (d_frzD (d_callN (ok_drawn T) (hr.mono (by decide)) rfl T.g_drawn T.F_drawn.kp (b_drawn T) takesD (da_cons (d_var 6) (da_cons (d_var 2) (da_cons (d_var 3) (da_cons (d_var 7) (da_cons (d_var 8) da_nil))))))))
      (dss_cons (ds_if (dt_w (dw_or (dt_not (dt_val (d_callB call_isi adq_isi rfl T.n_isinstance (by decide +kernel) (da_cons (d_var 9) (da_cons (d_ty (n := "list") rfl T.n_list (by decide +kernel)) da_nil))))) (dw_or (dt_ne hr.units (d_callB call_len_seq adq_len rfl T.n_len (by decide +kernel) (da_cons (d_var 9) da_nil)) (d_var 8)) (dw_or1 (dt_val (d_callB (cr_any rfl) adq_any rfl T.n_any (by decide +kernel) (da_cons (d_lc rfl sc_law.nd (di_list (d_var 9)) (blkOk_by (own := [("_law_row", 10)]) (N := ["_law_script", "_law_bag_here", "_law_wide", "_law_high", "_law_weights_here", "_law_boxes_now", "_law_named", "_law_columns", "_law_rows", "_law_found", "_law_row", "_law_one", "_law_name", "_law_spots", "_law_at", "_law_column", "_law_lines", "_law_left", "_law_right", "_law_top", "_law_bottom", "_law_good", "_law_bad", "_law_words"]) (sc := defScope s_law) (by decide +kernel)) (gok_name (by decide)) (fun _ _ _ _ _ => (pg_name (i := 10) sc_law.nd rfl (Or.inl rfl))) (fun _ _ _ _ _ => dts_nil) (fun _ _ _ _ _ => (d_ne hr.units (d_callB call_len_seq adq_len rfl T.n_len (by decide +kernel) (da_cons (d_var 10) da_nil)) (d_var 7)))) da_nil))))))) (dss_one (ds_ret d_bl)) dss_nil)
      (dss_cons (ds_if (dt_not (dt_val (d_callB (cr_all rfl) adq_all rfl T.n_all (by decide +kernel) (da_cons (d_lc rfl sc_law.nd (di_list (d_var 9)) (blkOk_by (own := [("_law_row", 10)]) (N := ["_law_script", "_law_bag_here", "_law_wide", "_law_high", "_law_weights_here", "_law_boxes_now", "_law_named", "_law_columns", "_law_rows", "_law_found", "_law_row", "_law_one", "_law_name", "_law_spots", "_law_at", "_law_column", "_law_lines", "_law_left", "_law_right", "_law_top", "_law_bottom", "_law_good", "_law_bad", "_law_words"]) (sc := defScope s_law) (by decide +kernel)) (gok_name (by decide)) (fun _ _ _ _ _ => (pg_name (i := 10) sc_law.nd rfl (Or.inl rfl))) (fun _ _ _ _ _ => dts_nil) (fun _ _ _ _ _ => (d_callB (cr_all rfl) adq_all rfl T.n_all (by decide +kernel) (da_cons (d_lc rfl sc_law.nd (di_list (d_var 10)) (blkOk_by (own := [("_law_one", 11)]) (N := ["_law_script", "_law_bag_here", "_law_wide", "_law_high", "_law_weights_here", "_law_boxes_now", "_law_named", "_law_columns", "_law_rows", "_law_found", "_law_row", "_law_one", "_law_name", "_law_spots", "_law_at", "_law_column", "_law_lines", "_law_left", "_law_right", "_law_top", "_law_bottom", "_law_good", "_law_bad", "_law_words"]) (sc := _) (by kernel_rfl)) (gok_name (by decide)) (fun _ _ _ _ _ => (pg_name (i := 11) sc_law.nd rfl (Or.inl rfl))) (fun _ _ _ _ _ => dts_nil) (fun _ _ _ _ _ => (d_inD hr.units (d_var 11) (d_var 6)))) da_nil)))) da_nil)))) (dss_one (ds_ret d_bl)) dss_nil)
      (dss_cons (ds_for passD rfl (di_keys (d_var 6)) (dg_name (i := 12) sc_law.nd rfl (Or.inr rfl)) (dss_cons (ds_set (i := 13) sc_law.nd rfl (Or.inl rfl) (d_lst da_nil))
      (dss_cons (ds_for passD rfl (di_enum rfl T.n_enumerate (da_cons (d_var 9) da_nil)) (dg_tup (n := 2) rfl (dgs_cons (dg_name (i := 14) sc_law.nd rfl (Or.inr rfl)) (dgs_cons (dg_name (i := 10) sc_law.nd rfl (Or.inr rfl)) dgs_nil))) (dss_one (ds_set (i := 13) sc_law.nd rfl (Or.inl rfl) (d_catL (d_var 13) (d_lc rfl sc_law.nd (di_range1 rfl T.n_range (da_cons (d_var 7) da_nil)) (blkOk_by (own := [("_law_column", 15)]) (N := ["_law_script", "_law_bag_here", "_law_wide", "_law_high", "_law_weights_here", "_law_boxes_now", "_law_named", "_law_columns", "_law_rows", "_law_found", "_law_row", "_law_one", "_law_name", "_law_spots", "_law_at", "_law_column", "_law_lines", "_law_left", "_law_right", "_law_top", "_law_bottom", "_law_good", "_law_bad", "_law_words"]) (sc := defScope s_law) (by decide +kernel)) (gok_name (by decide)) (fun _ _ _ _ _ => (pg_name (i := 15) sc_law.nd rfl (Or.inl rfl))) (fun _ _ _ _ _ => (dts_one (dt_eq hr.units (d_sub_ix (d_var 10) (d_var 15)) (d_var 12)))) (fun _ _ _ _ _ => (d_tup (da_cons (d_var 14) (da_cons (d_var 15) da_nil)))))))))
      (dss_one (ds_if (dt_ne hr.units (d_var 13) (d_lst da_nil)) (dss_cons (ds_set (i := 16) sc_law.nd rfl (Or.inl rfl) (d_lst (da_cons (d_callB (cr_min rfl) adq_min rfl T.n_min (by decide +kernel) (da_cons (d_lc rfl sc_law.nd (di_list (d_var 13)) (blkOk_by (own := [("_law_at", 14), ("_law_one", 11)]) (N := ["_law_script", "_law_bag_here", "_law_wide", "_law_high", "_law_weights_here", "_law_boxes_now", "_law_named", "_law_columns", "_law_rows", "_law_found", "_law_row", "_law_one", "_law_name", "_law_spots", "_law_at", "_law_column", "_law_lines", "_law_left", "_law_right", "_law_top", "_law_bottom", "_law_good", "_law_bad", "_law_words"]) (sc := defScope s_law) (by decide +kernel)) (gok_two (by decide) (by decide)) (fun _ _ _ _ _ => (pg_tup (n := 2) rfl (pgs_cons (pg_name (i := 14) sc_law.nd rfl (Or.inl rfl)) (pgs_cons (pg_name (i := 11) sc_law.nd rfl (Or.inl rfl)) pgs_nil)))) (fun _ _ _ _ _ => dts_nil) (fun _ _ _ _ _ => (d_var 11))) da_nil)) (da_cons (d_add (d_callB (cr_max rfl) adq_max rfl T.n_max (by decide +kernel) (da_cons (d_lc rfl sc_law.nd (di_list (d_var 13)) (blkOk_by (own := [("_law_at", 14), ("_law_one", 11)]) (N := ["_law_script", "_law_bag_here", "_law_wide", "_law_high", "_law_weights_here", "_law_boxes_now", "_law_named", "_law_columns", "_law_rows", "_law_found", "_law_row", "_law_one", "_law_name", "_law_spots", "_law_at", "_law_column", "_law_lines", "_law_left", "_law_right", "_law_top", "_law_bottom", "_law_good", "_law_bad", "_law_words"]) (sc := defScope s_law) (by decide +kernel)) (gok_two (by decide) (by decide)) (fun _ _ _ _ _ => (pg_tup (n := 2) rfl (pgs_cons (pg_name (i := 14) sc_law.nd rfl (Or.inl rfl)) (pgs_cons (pg_name (i := 11) sc_law.nd rfl (Or.inl rfl)) pgs_nil)))) (fun _ _ _ _ _ => dts_nil) (fun _ _ _ _ _ => (d_var 11))) da_nil)) d_int) da_nil))))
      (dss_cons (ds_set (i := 16) sc_law.nd rfl (Or.inl rfl) (d_catL (d_var 16) (d_lst (da_cons (d_sub_ix (d_sub_ix (d_var 13) d_int) d_int) (da_cons (d_add (d_sub_ix (d_sub_ix (d_var 13) (d_neg d_int)) d_int) d_int) da_nil)))))
      (dss_cons (ds_if (dt_ne hr.units (d_callB call_len_seq adq_len rfl T.n_len (by decide +kernel) (da_cons (d_var 13) da_nil)) (d_mul (d_sub (d_sub_ix (d_var 16) d_int) (d_sub_ix (d_var 16) d_int)) (d_sub (d_sub_ix (d_var 16) d_int) (d_sub_ix (d_var 16) d_int)))) (dss_one (ds_ret d_bl)) dss_nil)
      (dss_cons (ds_asg (d_callN (ok_law_ends T) (hr.mono (by decide)) rfl T.g_law_ends T.F_law_ends.kp (b_law_ends T) takesD (da_cons (d_getD hr.units (d_var 6) (d_var 12)) da_nil)) (dg_tup (n := 4) rfl (dgs_cons (dg_name (i := 17) sc_law.nd rfl (Or.inl rfl)) (dgs_cons (dg_name (i := 18) sc_law.nd rfl (Or.inl rfl)) (dgs_cons (dg_name (i := 19) sc_law.nd rfl (Or.inl rfl)) (dgs_cons (dg_name (i := 20) sc_law.nd rfl (Or.inl rfl)) dgs_nil))))))
      (dss_cons (ds_set (i := 21) sc_law.nd rfl (Or.inl rfl) (d_and (d_callN (ok_law_near_line T) (hr.mono (by decide)) rfl T.g_law_near_line T.F_law_near_line.kp (b_law_near_line T) takesD (da_cons (d_sub_ix (d_var 16) d_int) (da_cons (d_var 17) (da_cons (d_var 2) (da_cons (d_var 7) da_nil))))) (d_one (d_callN (ok_law_near_line T) (hr.mono (by decide)) rfl T.g_law_near_line T.F_law_near_line.kp (b_law_near_line T) takesD (da_cons (d_sub_ix (d_var 16) d_int) (da_cons (d_var 18) (da_cons (d_var 2) (da_cons (d_var 7) da_nil))))))))
      (dss_cons (ds_set (i := 21) sc_law.nd rfl (Or.inl rfl) (d_and (d_var 21) (d_one (d_callN (ok_law_near_line T) (hr.mono (by decide)) rfl T.g_law_near_line T.F_law_near_line.kp (b_law_near_line T) takesD (da_cons (d_sub_ix (d_var 16) d_int) (da_cons (d_var 19) (da_cons (d_var 3) (da_cons (d_var 8) da_nil))))))))
      (dss_one (ds_if (dt_w (dw_or (dt_not (dt_val (d_var 21))) (dw_or1 (dt_not (dt_val (d_callN (ok_law_near_line T) (hr.mono (by decide)) rfl T.g_law_near_line T.F_law_near_line.kp (b_law_near_line T) takesD (da_cons (d_sub_ix (d_var 16) d_int) (da_cons (d_var 20) (da_cons (d_var 3) (da_cons (d_var 8) da_nil)))))))))) (dss_one (ds_ret d_bl)) dss_nil)))))))) dss_nil)))))
      (dss_cons (ds_set (i := 22) sc_law.nd rfl (Or.inr rfl) (d_callN (ok_law_pick T) (hr.mono (by decide)) rfl T.g_law_pick T.F_law_pick.kp (b_law_pick T) takesD (da_cons (d_var 1) (da_cons (d_lst (da_cons d_int (da_cons d_int (da_cons (d_neg d_int) (da_cons d_bl (da_cons d_non (da_cons (d_add d_int (d_callN (ok_law_get T) (hr.mono (by decide)) rfl T.g_law_get T.F_law_get.kp (b_law_get T) takesD (da_cons (d_var 1) (da_cons d_int da_nil)))) da_nil))))))) da_nil))))
      (dss_cons (ds_set (i := 23) sc_law.nd rfl (Or.inl rfl) (d_lstM (da_cons (d_lam (k := 8) (q := "law.<locals>.<lambda>") (tk_law_why T) (td_why T.xcatch) takesD (hr.mono (by decide)) rfl T.g_law_why T.F_law_why.kp T.tb_law rfl (LamX.lamS_by (by show LamX.lamSB (defScope s_law) _ = true; decide +kernel)) (fun A outer s H E f c hr => (d_callN (ok_drawn T) (hr.mono (by decide)) rfl T.g_drawn T.F_drawn.kp (b_drawn T) takesL (da_cons (d_var 6) (da_cons (d_var 22) (da_cons (d_var 3) (da_cons (d_var 7) (da_cons (d_var 8) da_nil)))))))) (da_cons (d_lamD (k := 8) (q := "law.<locals>.<lambda>") (a := "_law_a") (tk_law_why T) (td_why T.xcatch) takesD (hr.mono (by decide)) rfl T.g_law_why T.F_law_why.kp T.tb_law rfl (lamT_by (by show lamTB ["_law_script", "_law_bag_here", "_law_wide", "_law_high", "_law_weights_here", "_law_boxes_now", "_law_named", "_law_columns", "_law_rows", "_law_found", "_law_row", "_law_one", "_law_name", "_law_spots", "_law_at", "_law_column", "_law_lines", "_law_left", "_law_right", "_law_top", "_law_bottom", "_law_good", "_law_bad", "_law_words"] (defScope s_law) _ = true; decide +kernel)) rfl (fun A outer s H E f c hr => (d_callN (ok_drawn T) (hr.mono (by decide)) rfl T.g_drawn T.F_drawn.kp (b_drawn T) takesL (da_cons (d_var 6) (da_cons (d_var 2) (da_cons (d_var 22) (da_cons d_int (da_cons (d_var 8) da_nil)))))))) da_nil))))
      (dss_cons (ds_set (i := 22) sc_law.nd rfl (Or.inr rfl) (d_callN (ok_law_pick T) (hr.mono (by decide)) rfl T.g_law_pick T.F_law_pick.kp (b_law_pick T) takesD (da_cons (d_var 1) (da_cons (d_lst (da_cons d_int (da_cons d_int (da_cons (d_neg d_int) (da_cons d_bl (da_cons d_non (da_cons d_str da_nil))))))) da_nil))))
      (dss_cons (ds_expr (d_append (d_var 23) (da_cons (d_lam (k := 8) (q := "law.<locals>.<lambda>") (tk_law_why T) (td_why T.xcatch) takesD (hr.mono (by decide)) rfl T.g_law_why T.F_law_why.kp T.tb_law rfl (LamX.lamS_by (by show LamX.lamSB (defScope s_law) _ = true; decide +kernel)) (fun A outer s H E f c hr => (d_callN (ok_drawn T) (hr.mono (by decide)) rfl T.g_drawn T.F_drawn.kp (b_drawn T) takesL (da_cons (d_var 6) (da_cons (d_var 2) (da_cons (d_var 3) (da_cons (d_var 22) (da_cons (d_var 8) da_nil)))))))) da_nil)))
      (dss_cons (ds_frzA 23 (ds_expr (d_append (d_var 23) (da_cons (d_lam (k := 8) (q := "law.<locals>.<lambda>") (tk_law_why T) (td_why T.xcatch) takesD (hr.mono (by decide)) rfl T.g_law_why T.F_law_why.kp T.tb_law rfl (LamX.lamS_by (by show LamX.lamSB (defScope s_law) _ = true; decide +kernel)) (fun A outer s H E f c hr => (d_callN (ok_drawn T) (hr.mono (by decide)) rfl T.g_drawn T.F_drawn.kp (b_drawn T) takesL (da_cons (d_var 6) (da_cons (d_var 2) (da_cons (d_var 3) (da_cons (d_var 7) (da_cons (d_var 22) da_nil)))))))) da_nil))))
      (dss_one (ds_ret (d_eq hr.units (d_var 23) (d_lst (da_cons d_str (da_cons d_str (da_cons d_str (da_cons d_str da_nil)))))))))))))))))))))))
  case hsp =>
    skip
    rintro ds cs Q Z ⟨ns, rfl, hl, hcs, h⟩ _
    show (_ : WS) (finD Q Z) [some _, none, none, none, none, none, none, none, none, none, none, none, none, none, none, none, none, none, none, none, none, none, none, none] cs
    have htb : look (tabA K "law") cs = some (.tbl "law.<locals>.<lambda>") := by subst hcs; simp [tbls, tbD, look]
    clear hcs
    walk_at "GO"
    refine ⟨ns, rfl, fun p b hp hb => ?_⟩
    have hne := look_ne htb hp
    have hbag : BagIn p ((p, b) :: cs) := ⟨b, by simp [look], hb⟩
    have htb1 : look (tabA K "law") ((p, b) :: cs) = some (.tbl "law.<locals>.<lambda>") := (look_cons_ne hne).trans htb
    walk_at "GO"
    intro w ca w0 w1 st1
    walk_at "GO"
    intro hh cb h0 h1 st2
    walk_at "GO"
    intro ws cc hws hwl st3
    walk_at "GO"
    rw [List.length_map]
    refine r_law_sizes hws.l0 (by have := hws.l1; omega) st3.bag ?_
    intro zs cd hz st4
    walk_at "GO"
    intro dn ce st5
    walk_at "GO"
    have eB : D.tup [D.tup [D.int 0, D.int 1], D.tup [D.int 0, D.int 1], D.tup [D.int (1 + w), D.int 1], D.tup [D.int (1 + hh), D.int 1]] = (⟨0, 0, ((1 + w : Int) : Rat), ((1 + hh : Int) : Rat)⟩ : Bx).d := rfl
    rw [eB]
    have z0 : Sz 202 (0 : Rat) := Sz.ofInt (n := 0) (by decide) (by decide)
    have bS : (⟨0, 0, ((1 + w : Int) : Rat), ((1 + hh : Int) : Rat)⟩ : Bx).Sz 202 := ⟨z0, z0, Sz.mono (n := 10) (Sz.ofInt (by omega) (by decide)) (by decide), Sz.mono (n := 10) (Sz.ofInt (by omega) (by decide)) (by decide)⟩
    have bP : (⟨0, 0, ((1 + w : Int) : Rat), ((1 + hh : Int) : Rat)⟩ : Bx).Pos := ⟨ofInt_pos (by omega), ofInt_pos (by omega)⟩
    obtain ⟨bx, hbx⟩ : ∃ bx : Bx, bx = ⟨0, 0, ((1 + w : Int) : Rat), ((1 + hh : Int) : Rat)⟩ := ⟨_, rfl⟩
    rw [← hbx] at bS bP ⊢
    have wk := hws.wok
    walk_at "GO"
    intro nm cf hnm st6
    refine ⟨_, _, rfl, ?_⟩
    walk_at "GO"
    refine r_dictN hnm.nd (by rw [List.length_map (f := Bx.d), laid_len bx dn hz, hnm.len, List.length_map (f := D.int)]) ?_
    intro q hq
    refine ⟨q, rfl, .inl ⟨_, look_hd, ?_⟩⟩
    rw [del_hd, dicZ_B]
    replace hnm : NamesOk nm ws.length := by rw [List.length_map] at hnm; exact hnm
    have hn := nbOk_laid (dn := dn) bP bS hws hz hnm
    obtain ⟨nb, hnb⟩ : ∃ nb, nb = nm.zip (laidB bx ws zs dn) := ⟨_, rfl⟩
    rw [← hnb] at hn ⊢
    have hin : InW (1 + w) (1 + hh) nb := by rw [hnb]; exact inW_laid bP wk hz hbx
    have hbf := st6.bag
    have ht6 : look (tabA K "law") cf = some (.tbl "law.<locals>.<lambda>") := by
      rw [st6.look hne, st5.look hne, st4.look hne, st3.look hne, st2.look hne, st1.look hne]; exact htb1
    walk_at "GO"
    intro g1 cg g10 g11 st7
    walk_at "GO"
    intro r1 ch r10 r11 st8
    obtain ⟨C, hC⟩ : ∃ C : Nat, 1 + g1 = (C : Int) := ⟨(1 + g1).toNat, by omega⟩
    obtain ⟨R, hR⟩ : ∃ R : Nat, 1 + r1 = (R : Int) := ⟨(1 + r1).toNat, by omega⟩
    have one : OneAt (1 + w) (1 + hh) C R nb := by rw [hnb]; exact one_laid bP wk hz hnm.len (by rw [← hnb]; exact hn.pos) hbx (by omega) (by omega)
    walk_at "GO"
    rw [hC, hR]
    have hbg := st8.bag
    have ht8 : look (tabA K "law") ch = some (.tbl "law.<locals>.<lambda>") := by rw [st8.look hne, st7.look hne]; exact ht6
    refine r_drawn hn hin (by omega) (by omega) (by omega) (by omega) ?_
    intro q3 ps cs3 hra
    refine RowsAt.frzD hra (fun cz hcz => ?_)
    have hb4 : BagIn p cz := by
      obtain ⟨b2, e1, e2⟩ := hbg
      exact ⟨b2, hcz _ _ e1, e2⟩
    have ht4 := hcz _ _ ht8
    obtain ⟨f, hf⟩ : ∃ f, f = cellS (1 + w) (1 + hh) C R nb := ⟨_, rfl⟩
    rw [← hf]
    have hrl : (rowsD f R C).length = R := by unfold rowsD; rw [List.length_map, List.length_range]
    clear hra hcz st1 st2 st3 st4 st5 st6 st7 st8 htb htb1 hbag hbf hbg ht6 ht8
    refine r_key (fun ρ cs' => ∃ (c0 c4 c5 c10 c11 c12 c13 c14 c15 c16 c17 c18 c19 c20 c21 c22 c23 : Option D), ρ = [c0, some (.opq (.ref p)), some (.int (1 + w)), some (.int (1 + hh)), c4, c5, some (.dic (dicB nb)), some (.int (C : Int)), some (.int (R : Int)), some (.lst (rowsD f R C)), c10, c11, c12, c13, c14, c15, c16, c17, c18, c19, c20, c21, c22, c23] ∧ cz = cs') ?_ (fun nx key => ?_)
    case refine_2 =>
      walk_at "G1"
      rw [hrl]
      refine r_npos rfl ?_
      walk_at "GO"
      refine ⟨by rw [hrl]; omega, ?_⟩
      refine r_cmE (l := List.range R) (g := fun r => .lst ((rowF f C r).map D.str)) rfl (fun _ => .bl false) (fun r N N' hm hN => ?_) ?_
      · walk_at "GO"
        rw [List.length_map, rowF_len]
        rw [show (!decide ((C : Int) = (C : Int))) = false by rw [decide_eq_true rfl]; rfl]
        exact hN
      walk_at "GO"
      refine ⟨_, (List.range R).map fun _ => false, rfl, by rw [List.map_map]; rfl, ?_⟩
      rw [any_false]
      walk_at "GO"
      exact key _ _ ⟨_, _, _, _, _, _, _, _, _, _, _, _, _, _, _, _, _, rfl, rfl⟩
    rintro ρ cs1 ⟨c0, c4, c5, c10, c11, c12, c13, c14, c15, c16, c17, c18, c19, c20, c21, c22, c23, rfl, rfl⟩
    refine r_chk (fun nx key => ?_) ?_
    · walk_at "G1"
      dsimp only
      refine ⟨by rw [hrl]; omega, ?_⟩
      refine r_cmE (l := List.range R) (g := fun r => .lst ((rowF f C r).map D.str)) rfl (fun _ => .bl true) (fun r N N' hm hN => ?_) ?_
      · walk_at "GO"
        refine ⟨by rw [List.length_map, rowF_len]; omega, ?_⟩
        unfold rowF
        refine r_cmE (l := List.range C) (g := fun c => .str (f r c)) (by rw [List.map_map]; rfl) (fun _ => .bl true) (fun c N2 N3 hm2 hN2 => ?_) ?_
        · walk_at "GO"
          obtain ⟨q0, hq0, e0, _⟩ := one.cell (List.mem_range.mp hm) (List.mem_range.mp hm2)
          rw [← hf] at e0
          rw [e0, lk_dicB hn.nd (show (q0.1, q0.2) ∈ nb from hq0)]
          exact hN2
        walk_at "GO"
        refine r_all (ns := (List.range C).map fun _ => true) (by rw [show (List.range C).map (fun _ => D.bl true) = ((List.range C).map fun _ => true).map D.bl by rw [List.map_map]; rfl]; exact blsOf_map _) ?_
        rw [all_true]
        exact hN
      walk_at "GO"
      refine r_all (ns := (List.range R).map fun _ => true) (by rw [show (List.range R).map (fun _ => D.bl true) = ((List.range R).map fun _ => true).map D.bl by rw [List.map_map]; rfl]; exact blsOf_map _) ?_
      rw [all_true]
      walk_at "GO"
      exact key
    refine r_seq ?_
    walk_at "G1"
    show loopW _ _ _ ((dicB nb).map fun p => kD p.1) _ _
    refine r_loopE (l := nb) (g := fun z => .str z.1) (fun i ρ cs' => ∃ (c0 c4 c5 c10 c11 c12 c13 c14 c15 c16 c17 c18 c19 c20 c21 c22 c23 : Option D), ρ = [c0, some (.opq (.ref p)), some (.int (1 + w)), some (.int (1 + hh)), c4, c5, some (.dic (dicB nb)), some (.int (C : Int)), some (.int (R : Int)), some (.lst (rowsD f R C)), c10, c11, c12, c13, c14, c15, c16, c17, c18, c19, c20, c21, c22, c23] ∧ cz = cs') (by rw [dicB_kd, List.map_map]; rfl) ⟨_, _, _, _, _, _, _, _, _, _, _, _, _, _, _, _, _, rfl, rfl⟩ ?_ ?_
    · rintro k z ρ cs' N3 hz1 ⟨c0, c4, c5, c10, c11, c12, c13, c14, c15, c16, c17, c18, c19, c20, c21, c22, c23, rfl, rfl⟩ hN3
      have hzm := List.mem_of_getElem? hz1
      have hlk := lk_dicB hn.nd (show (z.1, z.2) ∈ nb from hzm)
      have hiff : ∀ r c, r < R → c < C → ((decide (f r c = z.1)) = true ↔ covS (1 + w) (1 + hh) C R z.2 r c = true) := fun r c hr hc => by
        rw [decide_eq_true_eq, hf]
        exact one.iff hn.nd hr hc hzm
      refine r_seq ?_
      walk_at "G1"
      refine r_key (fun ρ cs' => ∃ (c0 c4 c5 c10 c11 c14 c15 c16 c17 c18 c19 c20 c21 c22 c23 : Option D), ρ = [c0, some (.opq (.ref p)), some (.int (1 + w)), some (.int (1 + hh)), c4, c5, some (.dic (dicB nb)), some (.int (C : Int)), some (.int (R : Int)), some (.lst (rowsD f R C)), c10, c11, some (.str z.1), some (.lst ((spotsL (fun r c => decide (f r c = z.1)) R C).map sqD)), c14, c15, c16, c17, c18, c19, c20, c21, c22, c23] ∧ cz = cs') ?_ (fun nx key => ?_)
      case refine_2 =>
        walk_at "GO"
        refine ⟨_, rfl, ?_⟩
        rw [show enumD (rowsD f R C) = (List.range R).map fun (i : Nat) => D.tup [.int (i : Int), .lst ((rowF f C i).map D.str)] from enumD_range R _]
        refine r_loopE (l := List.range R) (g := fun (i : Nat) => D.tup [.int (i : Int), .lst ((rowF f C i).map D.str)]) (fun i ρ cs' => ∃ (c0 c4 c5 c10 c11 c14 c15 c16 c17 c18 c19 c20 c21 c22 c23 : Option D), ρ = [c0, some (.opq (.ref p)), some (.int (1 + w)), some (.int (1 + hh)), c4, c5, some (.dic (dicB nb)), some (.int (C : Int)), some (.int (R : Int)), some (.lst (rowsD f R C)), c10, c11, some (.str z.1), some (.lst ((spotsL (fun r c => decide (f r c = z.1)) i C).map sqD)), c14, c15, c16, c17, c18, c19, c20, c21, c22, c23] ∧ cz = cs') rfl ⟨_, _, _, _, _, _, _, _, _, _, _, _, _, _, _, rfl, rfl⟩ ?_ ?_
        · rintro i i' ρ cs' N4 hi1 ⟨c0, c4, c5, c10, c11, c14, c15, c16, c17, c18, c19, c20, c21, c22, c23, rfl, rfl⟩ hN4
          obtain ⟨hi, rfl⟩ := range_get hi1
          walk_at "GO"
          dsimp only
          refine ⟨by omega, by rw [rng_len]; omega, ?_⟩
          rw [rng0' (n := C) (by omega)]
          refine r_cfmE (l := List.range C) (g := fun (c : Nat) => D.int (c : Int)) rfl (fun c => decide (f i c = z.1)) (fun c => sqD (i, c)) (fun c N N' hm n1 n2 => ?_) ?_
          · walk_at "GO"
            refine r_ixL (atD_map (g := D.str) (l := rowF f C i) (j := c) (x := f i c) (by unfold rowF; rw [List.getElem?_map, List.getElem?_range (List.mem_range.mp hm)]; rfl)) ?_
            walk_at "GO"
            refine ⟨fun q => ?_, fun q => n2 q⟩
            walk_at "GO"
            exact n1 q
          have hle := spotsL_le (fun r c => decide (f r c = z.1)) C i
          have hle2 : i * C ≤ 40 * 40 := Nat.mul_le_mul (by omega) (by omega)
          have hfl := List.length_filter_le (fun c => decide (f i c = z.1)) (List.range C)
          rw [List.length_range] at hfl
          refine r_catLL (by rw [List.length_map, List.length_map]; omega) ?_
          walk_at "GO"
          rw [show (spotsL (fun r c => decide (f r c = z.1)) i C).map sqD ++ ((List.range C).filter fun c => decide (f i c = z.1)).map (fun c => sqD (i, c)) = (spotsL (fun r c => decide (f r c = z.1)) (i + 1) C).map sqD by rw [spotsL_more, List.map_append, List.map_map]; rfl]
          exact hN4 _ _ ⟨_, _, _, _, _, _, _, _, _, _, _, _, _, _, _, rfl, rfl⟩
        · rintro ρ cs' ⟨c0, c4, c5, c10, c11, c14, c15, c16, c17, c18, c19, c20, c21, c22, c23, rfl, rfl⟩
          rw [List.length_range]
          exact key _ _ ⟨_, _, _, _, _, _, _, _, _, _, _, _, _, _, _, rfl, rfl⟩
      rintro ρ cs' ⟨c0, c4, c5, c10, c11, c14, c15, c16, c17, c18, c19, c20, c21, c22, c23, rfl, rfl⟩
      have sz := hn.sz z hzm
      have ps0 := hn.pos z hzm
      have sl := sz.l
      have sw := sz.w
      have stt := sz.t
      have sh := sz.h
      obtain ⟨i1, i2, i3, i4⟩ := hin z hzm
      have le1 : z.2.l ≤ z.2.l + z.2.w := by have := ps0.w; grind
      have le2 : z.2.t ≤ z.2.t + z.2.h := by have := ps0.h; grind
      have g1' : z.2.l ≤ ((1 + w : Int) : Rat) := Rat.le_trans le1 i2
      have g2' : 0 ≤ z.2.l + z.2.w := Rat.le_trans i1 le1
      have g3' : z.2.t ≤ ((1 + hh : Int) : Rat) := Rat.le_trans le2 i4
      have g4' : 0 ≤ z.2.t + z.2.h := Rat.le_trans i3 le2
      have w0' : 0 < 1 + w := by omega
      have h0' : 0 < 1 + hh := by omega
      have b1 := lnR_bd (r := z.2.l) (W := 1 + w) (n := (C : Int)) w0' (by omega) i1 g1'
      have b2 := lnR_bd (r := z.2.l + z.2.w) (W := 1 + w) (n := (C : Int)) w0' (by omega) g2' i2
      have b3 := lnR_bd (r := z.2.t) (W := 1 + hh) (n := (R : Int)) h0' (by omega) i3 g3'
      have b4 := lnR_bd (r := z.2.t + z.2.h) (W := 1 + hh) (n := (R : Int)) h0' (by omega) g4' i4
      obtain ⟨a, ha⟩ : ∃ a : Nat, lnR z.2.l (1 + w) C = (a : Int) := ⟨(lnR z.2.l (1 + w) C).toNat, by omega⟩
      obtain ⟨e, he⟩ : ∃ a : Nat, lnR (z.2.l + z.2.w) (1 + w) C = (a : Int) := ⟨(lnR (z.2.l + z.2.w) (1 + w) C).toNat, by omega⟩
      obtain ⟨t, ht⟩ : ∃ a : Nat, lnR z.2.t (1 + hh) R = (a : Int) := ⟨(lnR z.2.t (1 + hh) R).toNat, by omega⟩
      obtain ⟨u, hu⟩ : ∃ a : Nat, lnR (z.2.t + z.2.h) (1 + hh) R = (a : Int) := ⟨(lnR (z.2.t + z.2.h) (1 + hh) R).toNat, by omega⟩
      have hcov : ∀ r c, r < R → c < C → ((decide (f r c = z.1)) = true ↔ (t ≤ r ∧ r < u) ∧ a ≤ c ∧ c < e) := fun r c hr hc => by
        rw [hiff r c hr hc]
        unfold covS
        rw [ha, he, ht, hu]
        simp only [Bool.and_eq_true, decide_eq_true_eq]
        omega
      have hSl := spotsL_len (f := fun r c => decide (f r c = z.1)) (C := C) (t := t) (u := u) (a := a) (e := e) (by omega) R hcov
      rw [show (if R ≤ u then R else u) = u by split <;> omega] at hSl
      have hSp := spotsL_pw (fun r c => decide (f r c = z.1)) C R
      have hSm : ∀ r c, (r, c) ∈ spotsL (fun r c => decide (f r c = z.1)) R C ↔ (t ≤ r ∧ r < u) ∧ a ≤ c ∧ c < e := fun r c => by
        rw [spotsL_mem]
        constructor
        · rintro ⟨q1, q2, q3⟩; exact (hcov r c q1 q2).mp q3
        · rintro q; exact ⟨by omega, by omega, (hcov r c (by omega) (by omega)).mpr q⟩
      have hS0 := spotsL_le (fun r c => decide (f r c = z.1)) C R
      have hS1 : R * C ≤ 40 * 40 := Nat.mul_le_mul (by omega) (by omega)
      generalize spotsL (fun r c => decide (f r c = z.1)) R C = S at hSl hSp hSm hS0
      walk_at "G1"
      refine r_neNilD (plD_sq S (by omega)) ?_
      cases hS : S with
      | nil =>
        refine r_isF rfl ?_
        walk_at "GO"
        exact hN3 _ _ ⟨_, _, _, _, _, _, _, _, _, _, _, _, _, _, _, _, _, rfl, rfl⟩
      | cons s0 rest =>
        rw [← hS]
        refine r_isT (by rw [hS]; rfl) ?_
        have m0 : s0 ∈ S := by rw [hS]; exact List.mem_cons_self ..
        have mb := (hSm s0.1 s0.2).mp m0
        have mta : (t, a) ∈ S := (hSm t a).mpr (by omega)
        have mue : (u - 1, e - 1) ∈ S := (hSm (u - 1) (e - 1)).mpr (by omega)
        have hlen0 : S.length - 1 < S.length := by rw [hS]; simp
        obtain ⟨x, hx⟩ : ∃ x, S[S.length - 1]? = some x := ⟨_, List.getElem?_eq_getElem hlen0⟩
        have hxm := (hSm x.1 x.2).mp (List.mem_of_getElem? hx)
        have f0 : s0.1 = t := by
          have hp2 := hSp
          rw [hS] at hp2 mta
          rcases List.mem_cons.mp mta with q | q
          · rw [← q]
          · have := (List.pairwise_cons.mp hp2).1 _ q
            dsimp only at this
            omega
        have f1 : x.1 = u - 1 := by
          obtain ⟨k2, hk2, ek2⟩ := List.mem_iff_getElem.mp mue
          obtain ⟨hx1, hx2⟩ := List.getElem?_eq_some_iff.mp hx
          by_cases q : k2 = S.length - 1
          · subst q
            rw [hx2] at ek2
            rw [ek2]
          · have := List.pairwise_iff_getElem.mp hSp k2 (S.length - 1) hk2 hx1 (by omega)
            rw [ek2, hx2] at this
            dsimp only at this
            omega
        refine r_key (fun ρ cs' => ∃ (c0 c4 c5 c10 c11 c14 c15 c17 c18 c19 c20 c21 c22 c23 : Option D), ρ = [c0, some (.opq (.ref p)), some (.int (1 + w)), some (.int (1 + hh)), c4, c5, some (.dic (dicB nb)), some (.int (C : Int)), some (.int (R : Int)), some (.lst (rowsD f R C)), c10, c11, some (.str z.1), some (.lst (S.map sqD)), c14, c15, some (.lst [.int (a : Int), .int (e : Int)]), c17, c18, c19, c20, c21, c22, c23] ∧ cz = cs') ?_ (fun nx2 key => ?_)
        case refine_2 =>
          walk_at "G1"
          dsimp only
          refine ⟨by rw [List.length_map]; omega, ?_⟩
          refine r_cmE (l := S) (g := sqD) rfl (fun q => D.int (q.2 : Int)) (fun q N N' hm n1 => ?_) ?_
          · unfold sqD; walk_at "GO"; exact n1
          walk_at "G1"
          rw [show (S.map fun q => D.int (q.2 : Int)) = (S.map fun q => (q.2 : Int)).map D.int by rw [List.map_map]; rfl]
          refine r_minL (by rw [List.length_map, hS]; simp) (fun m hm1 hm2 => ?_)
          have em : m = (a : Int) := by
            obtain ⟨q, hq, rfl⟩ := List.mem_map.mp hm1
            have := (hSm q.1 q.2).mp hq
            have := hm2 (a : Int) (List.mem_map.mpr ⟨_, mta, rfl⟩)
            omega
          rw [em]
          walk_at "G1"
          dsimp only
          refine ⟨by rw [List.length_map]; omega, ?_⟩
          refine r_cmE (l := S) (g := sqD) rfl (fun q => D.int (q.2 : Int)) (fun q N N' hm n1 => ?_) ?_
          · unfold sqD; walk_at "GO"; exact n1
          walk_at "G1"
          rw [show (S.map fun q => D.int (q.2 : Int)) = (S.map fun q => (q.2 : Int)).map D.int by rw [List.map_map]; rfl]
          refine r_maxL (by rw [List.length_map, hS]; simp) (fun m2 hm3 hm4 => ?_)
          have em2 : m2 = (e : Int) - 1 := by
            obtain ⟨q, hq, rfl⟩ := List.mem_map.mp hm3
            have := (hSm q.1 q.2).mp hq
            have := hm4 ((e - 1 : Nat) : Int) (List.mem_map.mpr ⟨_, mue, rfl⟩)
            omega
          rw [em2]
          walk_at "G1"
          rw [show (e : Int) - 1 + 1 = (e : Int) by omega]
          exact key _ _ ⟨_, _, _, _, _, _, _, _, _, _, _, _, _, _, rfl, rfl⟩
        rintro ρ cs' ⟨c0, c4, c5, c10, c11, c14, c15, c17, c18, c19, c20, c21, c22, c23, rfl, rfl⟩
        refine r_key (fun ρ cs' => ∃ (c0 c4 c5 c10 c11 c14 c15 c17 c18 c19 c20 c21 c22 c23 : Option D), ρ = [c0, some (.opq (.ref p)), some (.int (1 + w)), some (.int (1 + hh)), c4, c5, some (.dic (dicB nb)), some (.int (C : Int)), some (.int (R : Int)), some (.lst (rowsD f R C)), c10, c11, some (.str z.1), some (.lst (S.map sqD)), c14, c15, some (.lst [.int (a : Int), .int (e : Int), .int (t : Int), .int (u : Int)]), c17, c18, c19, c20, c21, c22, c23] ∧ cz = cs') ?_ (fun nx2 key => ?_)
        case refine_2 =>
          walk_at "G1"
          refine r_ixL (atD_map (j := 0) (by rw [hS]; rfl)) ?_
          unfold sqD
          walk_at "G1"
          refine r_ixL (atD_last (g := fun q : Nat × Nat => D.tup [.int (q.1 : Int), .int (q.2 : Int)]) hx (by omega)) ?_
          walk_at "G1"
          rw [f0, f1, show ((u - 1 : Nat) : Int) + 1 = (u : Int) by omega]
          walk_at "G1"
          exact key _ _ ⟨_, _, _, _, _, _, _, _, _, _, _, _, _, _, rfl, rfl⟩
        rintro ρ cs' ⟨c0, c4, c5, c10, c11, c14, c15, c17, c18, c19, c20, c21, c22, c23, rfl, rfl⟩
        refine r_seq ?_
        walk_at "G1"
        rw [List.length_map, hSl, show (((u - t) * (e - a) : Nat) : Int) = ((e : Int) - (a : Int)) * ((u : Int) - (t : Int)) by
          rw [Int.natCast_mul, Int.natCast_sub (by omega), Int.natCast_sub (by omega), Int.mul_comm]]
        walk_at "G1"
        refine r_npos rfl ?_
        have t1 : Sz 1900 z.2.l := sl.mono (by decide)
        have t2 : Sz 1900 z.2.t := stt.mono (by decide)
        have t3 : Sz 1900 (z.2.l + z.2.w) := (Sz.add sl sw).mono (by decide)
        have t4 : Sz 1900 (z.2.t + z.2.h) := (Sz.add stt sh).mono (by decide)
        have q1 : Sz 1900 z.2.w := sw.mono (by decide)
        have q2 : Sz 1900 z.2.h := sh.mono (by decide)
        walk_at "G1"
        refine r_seq ?_
        walk_at "G1"
        refine r_seq ?_
        walk_at "G1"
        refine r_law_near_lineE ha t1 (by omega) (by omega) i1 g1' ?_
        walk_at "G1"
        refine r_law_near_lineE he t3 (by omega) (by omega) g2' i2 ?_
        walk_at "G1"
        refine r_seq ?_
        walk_at "G1"
        refine r_law_near_lineE ht t2 (by omega) (by omega) i3 g3' ?_
        walk_at "G1"
        refine r_law_near_lineE hu t4 (by omega) (by omega) g4' i4 ?_
        walk_at "G1"
        exact hN3 _ _ ⟨_, _, _, _, _, _, _, _, _, _, _, _, _, _, _, _, _, rfl, rfl⟩
    · rintro ρ cs' ⟨c0, c4, c5, c10, c11, c12, c13, c14, c15, c16, c17, c18, c19, c20, c21, c22, c23, rfl, rfl⟩
      walk_at "GO"
      intro r9 cb9 r90 r91 st9
      walk_at "GO"
      intro bad ci hbad st10
      have hbad2 : knD bad = true ∧ szD bad 1000 = false := by
        simp only [List.mem_cons, List.not_mem_nil, or_false] at hbad
        rcases hbad with rfl | rfl | rfl | rfl | rfl | rfl
        · exact ⟨rfl, rfl⟩
        · exact ⟨rfl, rfl⟩
        · exact ⟨rfl, rfl⟩
        · exact ⟨rfl, rfl⟩
        · exact ⟨rfl, rfl⟩
        · exact ⟨rfl, decide_eq_false (by omega)⟩
      obtain ⟨kb, zb⟩ := hbad2
      have ht9 : look (tabA K "law") ci = some (.tbl "law.<locals>.<lambda>") := by rw [st10.look hne, st9.look hne]; exact ht4
      have hb9 := st10.bag
      clear st9 st10 hbad
      walk_at "GO"
      refine r_drawnW ⟨kb, rfl, rfl, rfl⟩ (y := "BadBox") (by unfold whySq; rw [zb]; rfl) (by decide) ?_
      walk_at "GO"
      refine r_drawnW ⟨rfl, kb, rfl, rfl⟩ (y := "BadBox") (by unfold whySq; rw [zb, Bool.and_false]; rfl) (by decide) ?_
      walk_at "GO"
      intro pw hpw
      have hpwb := hb9.ne hpw
      have ht10 : look (tabA K "law") ((pw, MO.lst [.str "BadBox", .str "BadBox"]) :: ci) = some (.tbl "law.<locals>.<lambda>") := (look_cons_ne (look_ne ht9 hpw)).trans ht9
      walk_at "GO"
      intro bad2 cj hbad2 st11
      obtain ⟨ck, rfl, su⟩ := st11.under hpwb
      have ht11 : look (tabA K "law") ck = some (.tbl "law.<locals>.<lambda>") := by rw [su.look hne]; exact ht9
      have hpw2 : pw ≠ tabA K "law" := Ne.symm (look_ne ht9 hpw)
      have hbad3 : knD bad2 = true ∧ szD bad2 40 = false := by
        simp only [List.mem_cons, List.not_mem_nil, or_false] at hbad2
        rcases hbad2 with rfl | rfl | rfl | rfl | rfl | rfl <;> exact ⟨rfl, rfl⟩
      obtain ⟨kb2, zb2⟩ := hbad3
      have zw : szD (.int (1 + w)) 1000 = true := decide_eq_true (by omega)
      have zh : szD (.int (1 + hh)) 1000 = true := decide_eq_true (by omega)
      have zc : szD (.int (C : Int)) 40 = true := decide_eq_true (by omega)
      have htA : look (tabA K "law") ((pw, MO.lst [.str "BadBox", .str "BadBox"]) :: ck) = some (.tbl "law.<locals>.<lambda>") := (look_cons_ne (Ne.symm hpw2)).trans ht11
      have htB : look (tabA K "law") ((pw, MO.lst ([.str "BadBox", .str "BadBox"] ++ [.str "BadSizes"])) :: ck) = some (.tbl "law.<locals>.<lambda>") := (look_cons_ne (Ne.symm hpw2)).trans ht11
      walk_at "GO"
      refine r_drawnW ⟨rfl, rfl, kb2, rfl⟩ (y := "BadSizes") (by unfold whySq; rw [zw, zh, zb2]; rfl) (by decide) ?_
      walk_at "GO"
      refine r_drawnW ⟨rfl, rfl, rfl, kb2⟩ (y := "BadSizes") (by unfold whySq; rw [zw, zh, zc, zb2]; rfl) (by decide) ?_
      walk_at "GO"
      exact r_eqSelf rfl (h _)
theorem tb_at {K : PySem.W.Frag} {H : Hp} (hT : ∀ p ∈ tfD.map (He.cT K), H p.2 = some (.tbl #[])) : ∀ p ∈ tbD K, H p.1 = some (.tbl #[]) := by
  intro p hp
  have z : p.1 ∈ tfD.map fun q => (He.cT K q).2 := (show (tbD K).map (·.1) = tfD.map (fun q => (He.cT K q).2) from rfl) ▸ List.mem_map.mpr ⟨p, hp, rfl⟩
  obtain ⟨q, hq, e⟩ := List.mem_map.mp z
  rw [← e]
  exact hT _ (List.mem_map.mpr ⟨q, hq, rfl⟩)
theorem facts {K : PySem.W.Frag} {h base : Heap} {mg : Str → Option Value} {w : World} (X : K.In h) (G : h.Ns mainGlobals mg) (cx : He.SaysX faD fnD [] tfD exB w h K) (TB : ∀ p ∈ tfD, LamX.TabB base mg (He.cT K p).1 (He.cT K p).2) : Nonempty (Txt K mg base) := by
  have c : He.SaysD faD fnD K := cx.t.d
  obtain ⟨ex1, ex2⟩ := Bool.and_eq_true_iff.mp cx.more
  obtain ⟨ex3, ex4⟩ := Bool.and_eq_true_iff.mp ex2
  obtain ⟨fd_law_bag, F_law_bag⟩ := c.def_ 0 (d := dd_law_bag) rfl
  obtain ⟨fd_law_get, F_law_get⟩ := c.def_ 1 (d := dd_law_get) rfl
  obtain ⟨fd_law_weight, F_law_weight⟩ := c.def_ 2 (d := dd_law_weight) rfl
  obtain ⟨fd_law_weights, F_law_weights⟩ := c.def_ 3 (d := dd_law_weights) rfl
  obtain ⟨fd_law_parted, F_law_parted⟩ := c.def_ 4 (d := dd_law_parted) rfl
  obtain ⟨fd_law_gcd, F_law_gcd⟩ := c.def_ 5 (d := dd_law_gcd) rfl
  obtain ⟨fd_law_part, F_law_part⟩ := c.def_ 6 (d := dd_law_part) rfl
  obtain ⟨fd_law_plus, F_law_plus⟩ := c.def_ 7 (d := dd_law_plus) rfl
  obtain ⟨fd_law_times, F_law_times⟩ := c.def_ 8 (d := dd_law_times) rfl
  obtain ⟨fd_law_split, F_law_split⟩ := c.def_ 9 (d := dd_law_split) rfl
  obtain ⟨fd_law_turned_lean, F_law_turned_lean⟩ := c.def_ 10 (d := dd_law_turned_lean) rfl
  obtain ⟨fd_law_laid, F_law_laid⟩ := c.def_ 11 (d := dd_law_laid) rfl
  obtain ⟨fd_common, F_common⟩ := c.def_ 12 (d := dd_common) rfl
  obtain ⟨fd_part, F_part⟩ := c.def_ 13 (d := dd_part) rfl
  obtain ⟨fd_plus, F_plus⟩ := c.def_ 14 (d := dd_plus) rfl
  obtain ⟨fd_ends, F_ends⟩ := c.def_ 15 (d := dd_ends) rfl
  obtain ⟨fd_line_at, F_line_at⟩ := c.def_ 16 (d := dd_line_at) rfl
  obtain ⟨fd_lines_of, F_lines_of⟩ := c.def_ 17 (d := dd_lines_of) rfl
  obtain ⟨fd_is_whole, F_is_whole⟩ := c.def_ 18 (d := dd_is_whole) rfl
  obtain ⟨fd_is_size, F_is_size⟩ := c.def_ 19 (d := dd_is_size) rfl
  obtain ⟨fd_drawn, F_drawn⟩ := c.def_ 20 (d := dd_drawn) rfl
  obtain ⟨fd_law_pick, F_law_pick⟩ := c.def_ 21 (d := dd_law_pick) rfl
  obtain ⟨fd_law_sizes, F_law_sizes⟩ := c.def_ 22 (d := dd_law_sizes) rfl
  obtain ⟨fd_law_lean, F_law_lean⟩ := c.def_ 23 (d := dd_law_lean) rfl
  obtain ⟨fd_law_ask, F_law_ask⟩ := c.def_ 24 (d := dd_law_ask) rfl
  obtain ⟨fd_law_why, F_law_why⟩ := c.def_ 25 (d := dd_law_why) rfl
  obtain ⟨fd_law_ends, F_law_ends⟩ := c.def_ 26 (d := dd_law_ends) rfl
  obtain ⟨fd_law_names, F_law_names⟩ := c.def_ 27 (d := dd_law_names) rfl
  obtain ⟨fd_law_near_line, F_law_near_line⟩ := c.def_ 28 (d := dd_law_near_line) rfl
  obtain ⟨fd_law, F_law⟩ := c.def_ 29 (d := dd_law) rfl
  obtain ⟨fd_i_CutError, F_i_CutError⟩ := c.def_ 30 (d := dd_i_CutError) rfl
  obtain ⟨fd_i_BadPart, F_i_BadPart⟩ := c.def_ 31 (d := dd_i_BadPart) rfl
  obtain ⟨fd_i_BadBox, F_i_BadBox⟩ := c.def_ 32 (d := dd_i_BadBox) rfl
  obtain ⟨fd_i_BadSizes, F_i_BadSizes⟩ := c.def_ 33 (d := dd_i_BadSizes) rfl
  exact ⟨{ g_CutError := He.glo_ok X G (c.fact 48 (f := .glo "CutError") rfl), g_Missing := He.glo_ok X G (c.fact 49 (f := .glo "Missing") rfl), g_NothingLeft := He.glo_ok X G (c.fact 50 (f := .glo "NothingLeft") rfl), g_BadPart := He.glo_ok X G (c.fact 51 (f := .glo "BadPart") rfl), g_BadBox := He.glo_ok X G (c.fact 52 (f := .glo "BadBox") rfl), g_BadSizes := He.glo_ok X G (c.fact 53 (f := .glo "BadSizes") rfl), x_CutError := DL.xclassB_ok (List.all_eq_true.mp ex1 "CutError" (by decide)), fd_i_CutError := fd_i_CutError, F_i_CutError := F_i_CutError, x_BadPart := DL.xclassB_ok (List.all_eq_true.mp ex1 "BadPart" (by decide)), fd_i_BadPart := fd_i_BadPart, F_i_BadPart := F_i_BadPart, x_BadBox := DL.xclassB_ok (List.all_eq_true.mp ex1 "BadBox" (by decide)), fd_i_BadBox := fd_i_BadBox, F_i_BadBox := F_i_BadBox, x_BadSizes := DL.xclassB_ok (List.all_eq_true.mp ex1 "BadSizes" (by decide)), fd_i_BadSizes := fd_i_BadSizes, F_i_BadSizes := F_i_BadSizes, n_ValueError := He.free_ok X G (c.fact 54 (f := .free "ValueError") rfl), xcatch := DL.catch_ok (cl := ["CutError", "Missing", "NothingLeft"]) ex3, cd_law := DL.code_of F_law, tb_law := TB ("law", none) (by decide), fd_law_bag := fd_law_bag, F_law_bag := F_law_bag, g_law_bag := He.glo_ok X G (c.fact 0 (f := .glo "_law_bag") rfl), fd_law_get := fd_law_get, F_law_get := F_law_get, g_law_get := He.glo_ok X G (c.fact 1 (f := .glo "_law_get") rfl), fd_law_weight := fd_law_weight, F_law_weight := F_law_weight, g_law_weight := He.glo_ok X G (c.fact 2 (f := .glo "_law_weight") rfl), fd_law_weights := fd_law_weights, F_law_weights := F_law_weights, g_law_weights := He.glo_ok X G (c.fact 3 (f := .glo "_law_weights") rfl), fd_law_parted := fd_law_parted, F_law_parted := F_law_parted, g_law_parted := He.glo_ok X G (c.fact 4 (f := .glo "_law_parted") rfl), fd_law_gcd := fd_law_gcd, F_law_gcd := F_law_gcd, g_law_gcd := He.glo_ok X G (c.fact 5 (f := .glo "_law_gcd") rfl), fd_law_part := fd_law_part, F_law_part := F_law_part, g_law_part := He.glo_ok X G (c.fact 6 (f := .glo "_law_part") rfl), fd_law_plus := fd_law_plus, F_law_plus := F_law_plus, g_law_plus := He.glo_ok X G (c.fact 7 (f := .glo "_law_plus") rfl), fd_law_times := fd_law_times, F_law_times := F_law_times, g_law_times := He.glo_ok X G (c.fact 8 (f := .glo "_law_times") rfl), fd_law_split := fd_law_split, F_law_split := F_law_split, g_law_split := He.glo_ok X G (c.fact 9 (f := .glo "_law_split") rfl), fd_law_turned_lean := fd_law_turned_lean, F_law_turned_lean := F_law_turned_lean, g_law_turned_lean := He.glo_ok X G (c.fact 10 (f := .glo "_law_turned_lean") rfl), fd_law_laid := fd_law_laid, F_law_laid := F_law_laid, g_law_laid := He.glo_ok X G (c.fact 11 (f := .glo "_law_laid") rfl), fd_common := fd_common, F_common := F_common, g_common := He.glo_ok X G (c.fact 12 (f := .glo "common") rfl), fd_part := fd_part, F_part := F_part, g_part := He.glo_ok X G (c.fact 13 (f := .glo "part") rfl), fd_plus := fd_plus, F_plus := F_plus, g_plus := He.glo_ok X G (c.fact 14 (f := .glo "plus") rfl), fd_ends := fd_ends, F_ends := F_ends, g_ends := He.glo_ok X G (c.fact 15 (f := .glo "ends") rfl), fd_line_at := fd_line_at, F_line_at := F_line_at, g_line_at := He.glo_ok X G (c.fact 16 (f := .glo "line_at") rfl), fd_lines_of := fd_lines_of, F_lines_of := F_lines_of, g_lines_of := He.glo_ok X G (c.fact 17 (f := .glo "lines_of") rfl), fd_is_whole := fd_is_whole, F_is_whole := F_is_whole, g_is_whole := He.glo_ok X G (c.fact 18 (f := .glo "is_whole") rfl), fd_is_size := fd_is_size, F_is_size := F_is_size, g_is_size := He.glo_ok X G (c.fact 19 (f := .glo "is_size") rfl), fd_drawn := fd_drawn, F_drawn := F_drawn, g_drawn := He.glo_ok X G (c.fact 20 (f := .glo "drawn") rfl), fd_law_pick := fd_law_pick, F_law_pick := F_law_pick, g_law_pick := He.glo_ok X G (c.fact 21 (f := .glo "_law_pick") rfl), fd_law_sizes := fd_law_sizes, F_law_sizes := F_law_sizes, g_law_sizes := He.glo_ok X G (c.fact 22 (f := .glo "_law_sizes") rfl), fd_law_lean := fd_law_lean, F_law_lean := F_law_lean, g_law_lean := He.glo_ok X G (c.fact 23 (f := .glo "_law_lean") rfl), fd_law_ask := fd_law_ask, F_law_ask := F_law_ask, g_law_ask := He.glo_ok X G (c.fact 24 (f := .glo "_law_ask") rfl), fd_law_why := fd_law_why, F_law_why := F_law_why, g_law_why := He.glo_ok X G (c.fact 25 (f := .glo "_law_why") rfl), fd_law_ends := fd_law_ends, F_law_ends := F_law_ends, g_law_ends := He.glo_ok X G (c.fact 26 (f := .glo "_law_ends") rfl), fd_law_names := fd_law_names, F_law_names := F_law_names, g_law_names := He.glo_ok X G (c.fact 27 (f := .glo "_law_names") rfl), fd_law_near_line := fd_law_near_line, F_law_near_line := F_law_near_line, g_law_near_line := He.glo_ok X G (c.fact 28 (f := .glo "_law_near_line") rfl), fd_law := fd_law, F_law := F_law, g_law := He.glo_ok X G (c.fact 29 (f := .glo "law") rfl), n_abs := He.free_ok X G (c.fact 30 (f := .free "abs") rfl), n_all := He.free_ok X G (c.fact 31 (f := .free "all") rfl), n_any := He.free_ok X G (c.fact 32 (f := .free "any") rfl), n_bool := He.free_ok X G (c.fact 33 (f := .free "bool") rfl), n_dict := He.free_ok X G (c.fact 34 (f := .free "dict") rfl), n_enumerate := He.free_ok X G (c.fact 35 (f := .free "enumerate") rfl), n_int := He.free_ok X G (c.fact 36 (f := .free "int") rfl), n_isinstance := He.free_ok X G (c.fact 37 (f := .free "isinstance") rfl), n_len := He.free_ok X G (c.fact 38 (f := .free "len") rfl), n_list := He.free_ok X G (c.fact 39 (f := .free "list") rfl), n_max := He.free_ok X G (c.fact 40 (f := .free "max") rfl), n_min := He.free_ok X G (c.fact 41 (f := .free "min") rfl), n_range := He.free_ok X G (c.fact 42 (f := .free "range") rfl), n_sum := He.free_ok X G (c.fact 43 (f := .free "sum") rfl), n_tuple := He.free_ok X G (c.fact 44 (f := .free "tuple") rfl), n_zip := He.free_ok X G (c.fact 45 (f := .free "zip") rfl), c_MOST_SIZE := He.int_ok X G (c.fact 46 (f := .int "MOST_SIZE" 1000) rfl), c_MOST_SQUARES := He.int_ok X G (c.fact 47 (f := .int "MOST_SQUARES" 40) rfl) }⟩
end Lw
open PySem PySem.W PySem.Calls PyProof.Rows
set_option maxRecDepth 100000 in
set_option maxHeartbeats 0 in
theorem PySem.Challenge.cw_calmcuts_k40_whole_each_square_has_one_t_holds : PySem.Challenge.rw_calmcuts_k40_whole_each_square_has_one_t.Holds := by
  w_on; o_law
  o_head Lw.hk2
  case hw => w_witness2
  case hc =>
    refine LamX.walk_ofTsE (l := PySem.Challenge.rw_calmcuts_k40_whole_each_square_has_one_t) (n := 63) (k := 12) (x := "_law_script") (CX := fun _ => L2.CX0) rfl (by decide) (by kernel_rfl) ⟨rfl, by decide, by decide⟩ ?F (fun _ _ _ _ _ z => z)
    intro w mg fa h Y G hmg0
    obtain ⟨K, KX, c⟩ := Y
    have hmg : mg ("law" : PySem.Str) = some (.ref fa) := by
      have e : (HandSHeadRun.topDef (OpenLaw.row PySem.Challenge.rw_calmcuts_k40_whole_each_square_has_one_t).prog 42).name = ("law" : PySem.Str) := by kernel_rfl
      rw [← e]
      exact hmg0
    have ef : fa = He.ga K "law" := DL.ref_inj hmg (He.glo_ok KX G (c.t.d.fact 29 (f := .glo "law") rfl))
    subst ef
    obtain ⟨fd, F⟩ := c.t.d.def_ 29 (d := Lw.dd_law) rfl
    have b := L2.FunD.bindsA (ps := ["_law_script"]) F fun _ _ _ _ _ _ us hl => match us, hl with | [_], _ => rfl
    obtain ⟨_, ex2⟩ := Bool.and_eq_true_iff.mp c.more
    obtain ⟨_, ex4⟩ := Bool.and_eq_true_iff.mp ex2
    refine ⟨K, KX, fd, Lw.tfD.map (He.cT K), (fun vs H Q _ => DL.spL K 1 (Lw.sp_law K) vs H Q fun _ _ _ => False), ?_, ?_, ?_, fun s v => b s [v] rfl, fun H a ns hl _ hT hS => DL.law_startT (ts := Lw.tbD K) (of_decide_eq_true ex4) (Lw.tb_at hT) hl hS, fun base _ _ TB => ?_⟩
    · intro p hp
      obtain ⟨q, hq, e⟩ := List.mem_map.mp hp
      subst e
      exact c.empty q hq
    · intro p hp
      obtain ⟨q, hq, e⟩ := List.mem_map.mp hp
      subst e
      exact c.out q hq
    · intro p hp
      obtain ⟨q, hq, e⟩ := List.mem_map.mp hp
      subst e
      exact PySem.W.codeHd_of_K KX (c.hd q hq)
    · obtain ⟨T⟩ := Lw.facts (base := base) KX G c (fun p hp => TB _ (List.mem_map.mpr ⟨p, hp, rfl⟩))
      rw [DL.fd_same F T.F_law]
      exact DL.calmF (Lw.ok_law T)
#print axioms PySem.Challenge.cw_calmcuts_k40_whole_each_square_has_one_t_holds
