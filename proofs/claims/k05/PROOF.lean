import PyProof.Rows.All
import Wide.All
import OpenK.AllK
import Wide.FinOn
import KE.KStateDown
import Lean
import KE.DataEq
import KE.DataFind
import HandS.ForMost
import HandS.Exc
import HandS.ExcOwn
import HandS.CallSlots
import HandS.Defaults
import HandS.Wide
import HandS.IsInst
import HandS.TupAny
import HandS.Zip
import HandS.Style
import HandS.MakeKwOnly
import HandS.SortInts
import HandS.More
import HandS.WordsExc
import HandS.Lambda
import HandS.TryMany
import HandS.ExcInit
import HandS.ExcField
import HandS.HeadHook4
import HandS.HeadWalk
import HandS.Head0
import HandS.Head1
import HandS.Head2
import HandS.HeadEnd
import HandS.HeadHook1
import HandS.HeadHook2
import HandS.Dict
import HandS.DictComp
import HandS.Iter
import HandS.RevRange
import HandS.Conv
import HandS.TupMul
import HandS.Sort
import HandS.Keys
import KE.KDictCopyH
import KE.KDictSum
import HandS.TupSets
import KE.KDictWalk
import HandS.Flow
import KE.DataMinMax
import KE.SortData
import HandS.EndTab
import HandS.ClsMeth
import HandS.Text
import HandS.FStr
import HandS.Codes
import HandS.Strs
import KE.KDictZip
import KE.KItemsList
import HandS.ListItems
import HandS.DictEq
import KE.KExcInit
import PyProof.ListStr
import PySem.Challenge.RW_calmcuts_k05_part_texts_refused
import Open.Tops
set_option Elab.async false
set_option linter.all false
set_option maxRecDepth 100000
set_option maxHeartbeats 4000000
set_option maxHeartbeats 0 in
open_shared Sh for (PySem.W.OpenLaw.prog PySem.Challenge.rw_calmcuts_k05_part_texts_refused) leaving 1
namespace DL
open PySem PySem.Spec PyProof.Rows L2 LamX ClX
/-- the built-in base of own exceptions -/
inductive XB | v | l | i
  deriving DecidableEq
def XB.nm : XB → String | .v => "ValueError" | .l => "LookupError" | .i => "IndexError"
def XB.new : XB → String | .v => "ValueError.__new__" | .l => "LookupError.__new__" | .i => "IndexError.__new__"
def XB.ini : XB → String | .v => "ValueError.__init__" | .l => "LookupError.__init__" | .i => "IndexError.__init__"
def XB.tail : XB → List Value
  | .v => [.type "ValueError", .type "Exception", .type "BaseException", .type "object"]
  | .l => [.type "LookupError", .type "Exception", .type "BaseException", .type "object"]
  | .i => [.type "IndexError", .type "LookupError", .type "Exception", .type "BaseException", .type "object"]
def refsX (b : XB) : List Value → Bool
  | .ref _ :: r => refsX b r
  | l => l == b.tail
def oexB (K : PySem.W.Frag) (b : XB) (C : Addr) : Bool := (match K.lookup C with
  | some ⟨.type c, _, .cls cd, sl⟩ => decide (c = "type") && (cd.hasDict && (!cd.hasDel && (match cd.mro, sl.toList with
    | .ref C' :: bm, [_, _, _, _, some (.builtin n), _] => decide (C' = C) && (decide (n = b.new) && refsX b bm)
    | _, _ => false)))
  | _ => false) && (decide (PySem.W.findIn K (.ref C) "__setattr__" = some (some (.builtin "object.__setattr__"))) && (decide (PySem.W.subIn K (.ref C) (.type "BaseException") = some true) && (decide (PySem.W.typeIn K (.ref C) = some (.type "type")) && PySem.W.keepIn K (.ref C))))
def noAt (K : PySem.W.Frag) (C : Addr) (f : Str) : Bool := decide (PySem.W.findIn K (.ref C) f = some none)
def xcB (K : PySem.W.Frag) (b : XB) (C : Addr) : Bool := oexB K b C && (xfB K C && (noAt K C "called" && (noAt K C "at" && (noAt K C "name" && noAt K C "what"))))
abbrev iniA (K : PySem.W.Frag) (n : Str) : Addr := He.ma K (He.ga K n) "__init__"
def cfB (K : PySem.W.Frag) (C : Addr) (m : Str) (u : Value) : Bool := match PySem.W.findCls K (.ref C) (.type "type") m with
  | some (.val v) => decide (v = u)
  | _ => false
def xclassB (K : PySem.W.Frag) (b : XB) (n : Str) : Bool := xcB K b (He.ga K n) && (decide (PySem.W.findIn K (.ref (He.ga K n)) "__init__" = some (some (.ref (iniA K n)))) && (decide (PySem.W.typeIn K (.ref (iniA K n)) = some (.type "function")) &&
  (PySem.W.readsIn K (He.ga K n) (.type "type") && (decide (PySem.W.specialIn K (.ref (He.ga K n)) "__getattribute__" = some (some (.builtin "type.__getattribute__"))) &&
    cfB K (He.ga K n) "__init__" (.ref (iniA K n))))))
/-- n is caught by the first clause of these that it is under -/
def caughtB (K : PySem.W.Frag) (n : Str) : List Str → Bool
  | [] => false
  | c :: r => (match PySem.W.exmOne K (.ref (He.ga K n)) (.ref (He.ga K c)) with
    | some true => true
    | some false => caughtB K n r
    | none => false)
def asS (g : Addr → Option Obj) (n : Nat) : List Addr := He.asD g n ++ [PySem.cStatics]
abbrev frS (n : Nat) (g : Addr → Option Obj) : PySem.W.Frag := He.frT g (asS g n)
def obsS (n : Nat) (fa : List He.Fa) (fn : List He.DefD) (ts : List He.Tab) (tf : List He.Defn) (ex : PySem.W.Frag → Bool) (g : Addr → Option Obj) : He.AlX :=
  (He.obsT fa fn ts (frS n g), ex (frS n g) && He.tabsB g tf (frS n g))
theorem says_obsS {n : Nat} {fa : List He.Fa} {fn : List He.DefD} {ts : List He.Tab} {tf : List He.Defn} {ex : PySem.W.Frag → Bool} {w : World} {h : Heap} (e : obsS n fa fn ts tf ex h.get? = He.valX fn ts w) : He.SaysX fa fn ts tf ex w h (frS n h.get?) := by
  have a1 : He.obsT fa fn ts (frS n h.get?) = He.valT fn ts w := congrArg Prod.fst e
  have a2 : (ex (frS n h.get?) && He.tabsB h.get? tf (frS n h.get?)) = true := congrArg Prod.snd e
  obtain ⟨b1, b2⟩ := Bool.and_eq_true_iff.mp a2
  have tab : ∀ p ∈ tf, PySem.W.codeHdIn (frS n h.get?) (He.cT (frS n h.get?) p).1 (He.cT (frS n h.get?) p).2 = true ∧ ∃ o, h.get? (He.cT (frS n h.get?) p).2 = some o ∧ He.emptyTab o = true := by
    intro p hp
    obtain ⟨c1, c2⟩ := Bool.and_eq_true_iff.mp (List.all_eq_true.mp b2 p hp)
    refine ⟨c1, ?_⟩
    generalize h.get? (He.cT (frS n h.get?) p).2 = u at c2 ⊢
    cases u with
    | none => cases c2
    | some o => exact ⟨o, rfl, c2⟩
  refine ⟨a1, b1, fun p hp => (tab p hp).1, fun p hp => ?_, fun p hp => ?_⟩
  · obtain ⟨_, o, q, z⟩ := tab p hp
    exact He.frT_none q z
  · obtain ⟨_, o, q, z⟩ := tab p hp
    rw [q, He.emptyTab_eq z]
def hookS (n : Nat) (fa : List He.Fa) (fn : List He.DefD) (ts : List He.Tab) (tf : List He.Defn) (ex : PySem.W.Frag → Bool) : PySem.W.Hook where
  α := He.AlX
  obs := fun s => obsS n fa fn ts tf ex s.heap.get?
  val := fun w => He.valX fn ts w
  says := fun w h => ∃ K : PySem.W.Frag, K.In h ∧ He.SaysX fa fn ts tf ex w h K
  of := fun _ _ e => ⟨_, He.frT_in, says_obsS e⟩
  keeps := fun _ _ _ ⟨K, hK, c⟩ k => ⟨K, hK.keeps k, ⟨c.t, c.more, c.hd, c.out, fun p hp => k _ _ (c.empty p hp)⟩⟩
theorem obsS_eq {n : Nat} {fa : List He.Fa} {fn : List He.DefD} {ts : List He.Tab} {tf : List He.Defn} {ex : PySem.W.Frag → Bool} {g : Addr → Option Obj} {s : Shared} (h : ∀ a, g a = s.heap.get? a) : obsS n fa fn ts tf ex g = (hookS n fa fn ts tf ex).obs s := by
  rw [show g = s.heap.get? from funext h] <;> rfl
/-- the same looks, off a tree that is made of the heap's objects first -/
def treeHook (H : PySem.W.Hook) (ob : PySem.W.SharedT → H.α) (hob : ∀ s, ob s = H.obs s.abs) : PySem.W.Hook where
  α := Option H.α
  obs := fun s => (HandSHeadRun.putAll s.heap.objs.toList .nil 0).map fun r => ob ⟨r.1, r.2, s.heap.life, s.gens, s.drawn, s.toks, s.os⟩
  val := fun w => some (H.val w)
  says := H.says
  of := fun w s e => by
    obtain ⟨⟨T, n⟩, h1, h2⟩ := Option.map_eq_some_iff.mp e
    refine H.of w s ?_
    rw [hob] at h2
    have e2 : PySem.W.SharedT.abs ⟨T, n, s.heap.life, s.gens, s.drawn, s.toks, s.os⟩ = s := by
      show (⟨PySem.W.absHeap T n s.heap.life, s.gens, s.drawn, s.toks, s.os⟩ : Shared) = s
      rw [HandSHeadRun.putAll_heap h1]
    rw [e2] at h2
    exact h2
  keeps := H.keeps
end DL
namespace Lw
open PySem PySem.Spec PyProof.Rows L2
def top (i : Nat) : Stmt := PySem.Challenge.pw_calmcuts_k05_part_texts_refused.main.body.getD i (.Pass ⟨0, 0, 0, 0⟩)
abbrev s_law_bag : Stmt := top 13
abbrev s_law_text : Stmt := top 22
abbrev s_law_gcd : Stmt := top 18
abbrev s_law_part : Stmt := top 19
abbrev s_law_part_in : Stmt := top 24
abbrev s_law_get : Stmt := top 14
abbrev s_law_far : Stmt := top 16
abbrev s_law_number : Stmt := top 20
abbrev s_law_some_part : Stmt := top 21
abbrev s_law_pick : Stmt := top 15
abbrev s_law_bent_text : Stmt := top 23
abbrev s_law_same : Stmt := top 17
abbrev s_figures_in : Stmt := top 9
abbrev s_number_in : Stmt := top 10
abbrev s_is_whole : Stmt := top 5
abbrev s_common : Stmt := top 6
abbrev s_is_part : Stmt := top 7
abbrev s_part_text : Stmt := top 8
abbrev s_read_part : Stmt := top 11
abbrev s_law_read : Stmt := top 25
abbrev s_law : Stmt := top 26
def cbody (s : Stmt) : List Stmt := match s with
  | .ClassDef _ _ _ b _ _ _ _ _ _ _ => b
  | _ => []
abbrev si_CutError : Stmt := (cbody (top 1)).getD 0 (.Pass ⟨0, 0, 0, 0⟩)
abbrev si_BadText : Stmt := (cbody (top 2)).getD 0 (.Pass ⟨0, 0, 0, 0⟩)
abbrev exL : List Str := ["BadText"]
def dd_law_bag : He.DefD := ⟨("_law_bag", none), "_law_bag", "_law_bag", defArgs s_law_bag, defBody s_law_bag, defScope s_law_bag, [], []⟩
def dd_law_text : He.DefD := ⟨("_law_text", none), "_law_text", "_law_text", defArgs s_law_text, defBody s_law_text, defScope s_law_text, [], []⟩
def dd_law_gcd : He.DefD := ⟨("_law_gcd", none), "_law_gcd", "_law_gcd", defArgs s_law_gcd, defBody s_law_gcd, defScope s_law_gcd, [], []⟩
def dd_law_part : He.DefD := ⟨("_law_part", none), "_law_part", "_law_part", defArgs s_law_part, defBody s_law_part, defScope s_law_part, [], []⟩
def dd_law_part_in : He.DefD := ⟨("_law_part_in", none), "_law_part_in", "_law_part_in", defArgs s_law_part_in, defBody s_law_part_in, defScope s_law_part_in, [], []⟩
def dd_law_get : He.DefD := ⟨("_law_get", none), "_law_get", "_law_get", defArgs s_law_get, defBody s_law_get, defScope s_law_get, [], []⟩
def dd_law_far : He.DefD := ⟨("_law_far", none), "_law_far", "_law_far", defArgs s_law_far, defBody s_law_far, defScope s_law_far, [], []⟩
def dd_law_number : He.DefD := ⟨("_law_number", none), "_law_number", "_law_number", defArgs s_law_number, defBody s_law_number, defScope s_law_number, [], []⟩
def dd_law_some_part : He.DefD := ⟨("_law_some_part", none), "_law_some_part", "_law_some_part", defArgs s_law_some_part, defBody s_law_some_part, defScope s_law_some_part, [], []⟩
def dd_law_pick : He.DefD := ⟨("_law_pick", none), "_law_pick", "_law_pick", defArgs s_law_pick, defBody s_law_pick, defScope s_law_pick, [], []⟩
def dd_law_bent_text : He.DefD := ⟨("_law_bent_text", none), "_law_bent_text", "_law_bent_text", defArgs s_law_bent_text, defBody s_law_bent_text, defScope s_law_bent_text, [], []⟩
def dd_law_same : He.DefD := ⟨("_law_same", none), "_law_same", "_law_same", defArgs s_law_same, defBody s_law_same, defScope s_law_same, [], []⟩
def dd_figures_in : He.DefD := ⟨("figures_in", none), "figures_in", "figures_in", defArgs s_figures_in, defBody s_figures_in, defScope s_figures_in, [.int 200], []⟩
def dd_number_in : He.DefD := ⟨("number_in", none), "number_in", "number_in", defArgs s_number_in, defBody s_number_in, defScope s_number_in, [.int 200], []⟩
def dd_is_whole : He.DefD := ⟨("is_whole", none), "is_whole", "is_whole", defArgs s_is_whole, defBody s_is_whole, defScope s_is_whole, [], []⟩
def dd_common : He.DefD := ⟨("common", none), "common", "common", defArgs s_common, defBody s_common, defScope s_common, [], []⟩
def dd_is_part : He.DefD := ⟨("is_part", none), "is_part", "is_part", defArgs s_is_part, defBody s_is_part, defScope s_is_part, [], []⟩
def dd_part_text : He.DefD := ⟨("part_text", none), "part_text", "part_text", defArgs s_part_text, defBody s_part_text, defScope s_part_text, [], []⟩
def dd_read_part : He.DefD := ⟨("read_part", none), "read_part", "read_part", defArgs s_read_part, defBody s_read_part, defScope s_read_part, [], []⟩
def dd_law_read : He.DefD := ⟨("_law_read", none), "_law_read", "_law_read", defArgs s_law_read, defBody s_law_read, defScope s_law_read, [], []⟩
def dd_law : He.DefD := ⟨("law", none), "law", "law", defArgs s_law, defBody s_law, defScope s_law, [], []⟩
def dd_i_CutError : He.DefD := ⟨("CutError", some "__init__"), "__init__", "CutError.__init__", defArgs si_CutError, defBody si_CutError, defScope si_CutError, [], []⟩
def dd_i_BadText : He.DefD := ⟨("BadText", some "__init__"), "__init__", "BadText.__init__", defArgs si_BadText, defBody si_BadText, defScope si_BadText, [.int 0], []⟩
def fnD : List He.DefD := [dd_law_bag, dd_law_text, dd_law_gcd, dd_law_part, dd_law_part_in, dd_law_get, dd_law_far, dd_law_number, dd_law_some_part, dd_law_pick, dd_law_bent_text, dd_law_same, dd_figures_in, dd_number_in, dd_is_whole, dd_common, dd_is_part, dd_part_text, dd_read_part, dd_law_read, dd_law, dd_i_CutError, dd_i_BadText]
def faD : List He.Fa := [.glo "_law_bag", .glo "_law_text", .glo "_law_gcd", .glo "_law_part", .glo "_law_part_in", .glo "_law_get", .glo "_law_far", .glo "_law_number", .glo "_law_some_part", .glo "_law_pick", .glo "_law_bent_text", .glo "_law_same", .glo "figures_in", .glo "number_in", .glo "is_whole", .glo "common", .glo "is_part", .glo "part_text", .glo "read_part", .glo "_law_read", .glo "law", .free "abs", .free "all", .free "bool", .free "dict", .free "int", .free "isinstance", .free "len", .free "list", .free "range", .free "str", .free "tuple", .free "zip", .glo "CutError", .glo "BadText", .free "ValueError"]
def tfD : List He.Defn := []
def exB (K : PySem.W.Frag) : Bool := (([(.v, "CutError"), (.v, "BadText")] : List (DL.XB × Str)).all fun n => DL.xclassB K n.1 n.2) && ((true && ((["BadText"] : List Str).all fun n => DL.caughtB K n ["BadText"] && (L2.xfB K (He.ga K n) && DL.noAt K (He.ga K n) "at"))) && decide ((tfD.map fun p => (He.cT K p).2).Nodup))
abbrev hk : PySem.W.Hook := DL.hookS 4 faD fnD [] tfD exB
def ob (s : PySem.W.SharedT) : He.AlX := DL.obsS 4 faD fnD [] tfD exB (HandSHeadRun.getT s)
theorem ob_eq (s : PySem.W.SharedT) : ob s = hk.obs s.abs := DL.obsS_eq (HandSHeadRun.getT_eq s)
abbrev hk2 : PySem.W.Hook := DL.treeHook hk ob ob_eq
end Lw
namespace DL
open PySem L2
inductive D where
  | non | bl (b : Bool) | int (i : Int) | str (x : Str)
  | tup (xs : List D) | lst (xs : List D) | dic (kvs : List (Key × D)) | dct (kvs : List (List Key × D))
  | ins (c : Str) (fs : List (Str × D)) | xcp (a dd : Addr) (c : Str) (fs : List (Str × D))
  | opq (v : V)
def Ex (H H' : Hp) : Prop := ∀ a o, H a = some o → H' a = some o
theorem Ex.refl (H : Hp) : Ex H H := fun _ _ h => h
theorem Ex.trans {H H1 H2 : Hp} (a : Ex H H1) (b : Ex H1 H2) : Ex H H2 := fun x o h => b x o (a x o h)
theorem Ex.new {H : Hp} {p : Addr} {o : HO} (h : H p = none) : Ex H (upd H p o) := fun a u e => by
  rw [upd_ne (ne_of_none e h)]; exact e
theorem Ex.back {H H' : Hp} {p : Addr} (e : Ex H H') (h : H' p = none) : H p = none := by
  cases h1 : H p with
  | none => rfl
  | some o => rw [e p o h1] at h; cases h
theorem ex_rd {H H' : Hp} {a : Addr} {u : HO} (e : Ex H H') (h : Rd H a u) : Rd H' a u := by
  rcases h with h | ⟨o, h⟩
  · exact Or.inl (e a _ h)
  · exact Or.inr ⟨o, e a _ h⟩
theorem ex_l {K : PySem.W.Frag} {H H' : Hp} {a : Addr} {xs : List V} (e : Ex H H') (h : SqL K H a xs) : SqL K H' a xs := by
  rcases h with h | h
  · exact Or.inl (ex_rd e h)
  · exact Or.inr h
theorem ex_t {K : PySem.W.Frag} {H H' : Hp} {a : Addr} {xs : List V} (e : Ex H H') (h : SqT K H a xs) : SqT K H' a xs := by
  rcases h with h | h
  · exact Or.inl (ex_rd e h)
  · exact Or.inr h
mutual
inductive Rep (K : PySem.W.Frag) (G : Hp) : V → D → Prop
  | non : Rep K G .non .non
  | bl (b : Bool) : Rep K G (.bl b) (.bl b)
  | int (i : Int) : Rep K G (.int i) (.int i)
  | str (x : Str) : Rep K G (.str x) (.str x)
  | opq (v : V) : Rep K G v (.opq v)
  | lst {a : Addr} {xs : List V} {ds : List D} : SqL K G a xs → RepL K G xs ds → Rep K G (.ref a) (.lst ds)
  | tup {a : Addr} {xs : List V} {ds : List D} : SqT K G a xs → RepL K G xs ds → Rep K G (.ref a) (.tup ds)
  | dic {a : Addr} {o : Obj} {xs : List (Key × V)} {ds : List (Key × D)} : G a = some (.frz o (.dK xs)) → RepK K G xs ds → Rep K G (.ref a) (.dic ds)
  | dct {a : Addr} {o : Obj} {xs : List (List Key × V)} {ds : List (List Key × D)} : G a = some (.frz o (.dT xs)) → RepT K G xs ds → Rep K G (.ref a) (.dct ds)
  | ins {a dx : Addr} {c : Str} {xs : List (Str × V)} {fs : List (Str × D)} : G a = some (.ins (He.ga K c) dx xs) → G dx = some (.own a) → RepF K G xs fs → Rep K G (.ref a) (.ins c fs)
  | xcp {a dd : Addr} {c : Str} {xs : List (Str × V)} {fs : List (Str × D)} : G dd = some (.xd xs) → RepX K G xs fs → Rep K G (.ref a) (.xcp a dd c fs)
inductive RepL (K : PySem.W.Frag) (G : Hp) : List V → List D → Prop
  | nil : RepL K G [] []
  | cons {v : V} {vs : List V} {d : D} {ds : List D} : Rep K G v d → RepL K G vs ds → RepL K G (v :: vs) (d :: ds)
inductive RepK (K : PySem.W.Frag) (G : Hp) : List (Key × V) → List (Key × D) → Prop
  | nil : RepK K G [] []
  | cons {k : Key} {v : V} {vs : List (Key × V)} {d : D} {ds : List (Key × D)} : Rep K G v d → RepK K G vs ds → RepK K G ((k, v) :: vs) ((k, d) :: ds)
inductive RepT (K : PySem.W.Frag) (G : Hp) : List (List Key × V) → List (List Key × D) → Prop
  | nil : RepT K G [] []
  | cons {k : List Key} {v : V} {vs : List (List Key × V)} {d : D} {ds : List (List Key × D)} : Rep K G v d → RepT K G vs ds → RepT K G ((k, v) :: vs) ((k, d) :: ds)
/-- fields, one by one -/
inductive RepF (K : PySem.W.Frag) (G : Hp) : List (Str × V) → List (Str × D) → Prop
  | nil : RepF K G [] []
  | cons {k : Str} {v : V} {vs : List (Str × V)} {d : D} {ds : List (Str × D)} : Rep K G v d → RepF K G vs ds → RepF K G ((k, v) :: vs) ((k, d) :: ds)
/-- some fields, by name -/
inductive RepX (K : PySem.W.Frag) (G : Hp) : List (Str × V) → List (Str × D) → Prop
  | nil {vs : List (Str × V)} : RepX K G vs []
  | cons {k : Str} {v : V} {vs : List (Str × V)} {d : D} {ds : List (Str × D)} : vs.lookup k = some v → Rep K G v d → RepX K G vs ds → RepX K G vs ((k, d) :: ds)
end
mutual
theorem Rep.mono {K : PySem.W.Frag} {G G' : Hp} (e : Ex G G') : ∀ {v : V} {d : D}, Rep K G v d → Rep K G' v d
  | _, _, .non => .non
  | _, _, .bl b => .bl b
  | _, _, .int i => .int i
  | _, _, .str x => .str x
  | _, _, .opq v => .opq v
  | _, _, .lst h r => .lst (ex_l e h) (r.mono e)
  | _, _, .tup h r => .tup (ex_t e h) (r.mono e)
  | _, _, .dic h r => .dic (e _ _ h) (r.mono e)
  | _, _, .dct h r => .dct (e _ _ h) (r.mono e)
  | _, _, .ins h q r => .ins (e _ _ h) (e _ _ q) (r.mono e)
  | _, _, .xcp h r => .xcp (e _ _ h) (r.mono e)
theorem RepL.mono {K : PySem.W.Frag} {G G' : Hp} (e : Ex G G') : ∀ {vs : List V} {ds : List D}, RepL K G vs ds → RepL K G' vs ds
  | _, _, .nil => .nil
  | _, _, .cons h r => .cons (h.mono e) (r.mono e)
theorem RepK.mono {K : PySem.W.Frag} {G G' : Hp} (e : Ex G G') : ∀ {vs : List (Key × V)} {ds : List (Key × D)}, RepK K G vs ds → RepK K G' vs ds
  | _, _, .nil => .nil
  | _, _, .cons h r => .cons (h.mono e) (r.mono e)
theorem RepT.mono {K : PySem.W.Frag} {G G' : Hp} (e : Ex G G') : ∀ {vs : List (List Key × V)} {ds : List (List Key × D)}, RepT K G vs ds → RepT K G' vs ds
  | _, _, .nil => .nil
  | _, _, .cons h r => .cons (h.mono e) (r.mono e)
theorem RepF.mono {K : PySem.W.Frag} {G G' : Hp} (e : Ex G G') : ∀ {vs : List (Str × V)} {ds : List (Str × D)}, RepF K G vs ds → RepF K G' vs ds
  | _, _, .nil => .nil
  | _, _, .cons h r => .cons (h.mono e) (r.mono e)
theorem RepX.mono {K : PySem.W.Frag} {G G' : Hp} (e : Ex G G') : ∀ {vs : List (Str × V)} {ds : List (Str × D)}, RepX K G vs ds → RepX K G' vs ds
  | _, _, .nil => .nil
  | _, _, .cons q h r => .cons q (h.mono e) (r.mono e)
end
theorem RepX.get {K : PySem.W.Frag} {G : Hp} : ∀ {vs : List (Str × V)} {ds : List (Str × D)} {f : Str} {y : D}, RepX K G vs ds → ds.lookup f = some y → ∃ v, vs.lookup f = some v ∧ Rep K G v y
  | _, _, f, y, .nil, e => by cases e
  | _, (k, d) :: ds, f, y, .cons q h r, e => by
    by_cases z : f = k
    · subst z
      simp only [List.lookup, beq_self_eq_true, Option.some.injEq] at e
      subst e
      exact ⟨_, q, h⟩
    · have z2 : (f == k) = false := beq_false_of_ne z
      simp only [List.lookup, z2] at e
      exact r.get e
theorem RepF.get {K : PySem.W.Frag} {G : Hp} : ∀ {vs : List (Str × V)} {ds : List (Str × D)} {f : Str} {y : D}, RepF K G vs ds → ds.lookup f = some y → ∃ v, vs.lookup f = some v ∧ Rep K G v y
  | _, _, f, y, .nil, e => by cases e
  | (_, v) :: vs, (k, d) :: ds, f, y, .cons h r, e => by
    by_cases z : f = k
    · subst z
      simp only [List.lookup, beq_self_eq_true, Option.some.injEq] at e ⊢
      subst e
      exact ⟨_, rfl, h⟩
    · have z2 : (f == k) = false := beq_false_of_ne z
      simp only [List.lookup, z2] at e ⊢
      exact r.get e
theorem RepF.none {K : PySem.W.Frag} {G : Hp} : ∀ {vs : List (Str × V)} {ds : List (Str × D)} {f : Str}, RepF K G vs ds → ds.lookup f = none → vs.lookup f = none
  | _, _, f, .nil, _ => rfl
  | (_, v) :: vs, (k, d) :: ds, f, .cons h r, e => by
    by_cases z : f = k
    · subst z
      simp [List.lookup] at e
    · have z2 : (f == k) = false := beq_false_of_ne z
      simp only [List.lookup, z2] at e ⊢
      exact r.none e
theorem RepL.length {K : PySem.W.Frag} {G : Hp} : ∀ {vs : List V} {ds : List D}, RepL K G vs ds → vs.length = ds.length
  | _, _, .nil => rfl
  | _, _, .cons _ r => congrArg Nat.succ r.length
theorem RepL.get {K : PySem.W.Frag} {G : Hp} : ∀ {vs : List V} {ds : List D} {i : Nat} {d : D}, RepL K G vs ds → ds[i]? = some d → ∃ v, vs[i]? = some v ∧ Rep K G v d
  | _, _, _, _, .nil, e => by simp at e
  | _, _, 0, _, .cons h _, e => by simp at e; subst e; exact ⟨_, rfl, h⟩
  | _, _, i + 1, d, .cons _ r, e => by
    obtain ⟨u, h1, h2⟩ := RepL.get (i := i) (d := d) r (by simpa using e)
    exact ⟨u, by simpa using h1, h2⟩
theorem RepL.append {K : PySem.W.Frag} {G : Hp} : ∀ {vs ws : List V} {ds es : List D}, RepL K G vs ds → RepL K G ws es → RepL K G (vs ++ ws) (ds ++ es)
  | _, _, _, _, .nil, s => s
  | _, _, _, _, .cons h r, s => .cons h (r.append s)
theorem RepL.take {K : PySem.W.Frag} {G : Hp} : ∀ {vs : List V} {ds : List D} (n : Nat), RepL K G vs ds → RepL K G (vs.take n) (ds.take n)
  | _, _, 0, _ => by simp; exact .nil
  | _, _, _ + 1, .nil => .nil
  | _, _, n + 1, .cons h r => .cons h (r.take n)
theorem RepL.drop {K : PySem.W.Frag} {G : Hp} : ∀ {vs : List V} {ds : List D} (n : Nat), RepL K G vs ds → RepL K G (vs.drop n) (ds.drop n)
  | _, _, 0, r => r
  | _, _, _ + 1, .nil => .nil
  | _, _, n + 1, .cons _ r => r.drop n
theorem RepL.set {K : PySem.W.Frag} {G : Hp} {v : V} {d : D} (h : Rep K G v d) : ∀ {vs : List V} {ds : List D} (n : Nat), RepL K G vs ds → RepL K G (vs.set n v) (ds.set n d)
  | _, _, _, .nil => .nil
  | _, _, 0, .cons _ r => .cons h r
  | _, _, n + 1, .cons q r => .cons q (r.set h n)
theorem RepL.ofInts {K : PySem.W.Frag} {G : Hp} : ∀ (ns : List Int), RepL K G (ns.map V.int) (ns.map D.int)
  | [] => .nil
  | n :: ns => .cons (.int n) (RepL.ofInts ns)
theorem RepL.bls {K : PySem.W.Frag} {G : Hp} : ∀ {vs : List V} (ns : List Bool), RepL K G vs (ns.map D.bl) → vs = ns.map V.bl
  | _, [], .nil => rfl
  | _, n :: ns, .cons h r => by
    cases h
    rw [List.map_cons, RepL.bls ns r]
inductive MO where
  | lst (ds : List D) | dic (kvs : List (Key × D)) | dct (kvs : List (List Key × D))
  | tbl (q : Str) | ins (c : Str) (dx : Addr) (fs : List (Str × D))
abbrev Cs := List (Addr × MO)
def adr (cs : Cs) : List Addr := cs.map (·.1)
def pur (F : Hp) (cs : Cs) (H : Hp) : Hp := fun b => if (F b).isSome = true ∨ b ∈ adr cs then none else H b
def MoOk (K : PySem.W.Frag) (G : Hp) : MO → HO → Prop
  | .lst ds, .lst vs => RepL K G vs ds
  | .dic ds, .dK vs => RepK K G vs ds
  | .dct ds, .dT vs => RepT K G vs ds
  | .tbl q, .tbl ps => TriplesOk ps.toList ∧ ∀ (pos : Pos) (cv : Value), codeAmong pos ps.toList = some cv → ∃ c, cv = .ref c ∧ G c = some (LamX.CodeO c q)
  | _, _ => False
theorem MoOk.mono {K : PySem.W.Frag} {G G' : Hp} (e : Ex G G') : ∀ {m : MO} {o : HO}, MoOk K G m o → MoOk K G' m o := by
  intro m o h
  cases m <;> cases o <;> first | exact h.elim | exact RepL.mono e h | exact RepK.mono e h | exact RepT.mono e h | exact ⟨h.1, fun pos cv hc => by
    obtain ⟨c, e1, e2⟩ := h.2 pos cv hc
    exact ⟨c, e1, e _ _ e2⟩⟩
structure Sta (K : PySem.W.Frag) (F G0 : Hp) (cs : Cs) (H : Hp) : Prop where
  fr : Ex F H
  gr : Ex G0 (pur F cs H)
  nd : (adr cs).Nodup
  ap : ∀ a ∈ adr cs, F a = none
  ow : ∀ a m, (a, m) ∈ cs → ∃ o, H a = some o ∧ MoOk K (pur F cs H) m o
  ft : ∀ a xs, F a ≠ some (.tup xs)
section
variable {K : PySem.W.Frag} {F G G0 G1 H H1 H' : Hp} {cs cs1 cs' : Cs} {p : Addr} {o : HO} {m : MO}
theorem Sta.self (s : Sta K F G0 cs H) : Sta K F (pur F cs H) cs H := ⟨s.fr, Ex.refl _, s.nd, s.ap, s.ow, s.ft⟩
theorem Sta.from_ (s : Sta K F G1 cs H) (e : Ex G0 G1) : Sta K F G0 cs H := ⟨s.fr, e.trans s.gr, s.nd, s.ap, s.ow, s.ft⟩
theorem pur_of {b : Addr} {u : HO} (h : pur F cs H b = some u) : H b = some u ∧ F b = none ∧ b ∉ adr cs := by
  unfold pur at h
  split at h
  · cases h
  · rename_i q
    refine ⟨h, ?_, fun z => q (.inr z)⟩
    cases e : F b with
    | none => rfl
    | some x => exact absurd (Or.inl (by rw [e]; rfl)) q
theorem pur_at {b : Addr} (h1 : F b = none) (h2 : b ∉ adr cs) : pur F cs H b = H b := by
  unfold pur
  rw [if_neg]
  rintro (z | z)
  · rw [h1] at z; cases z
  · exact h2 z
/-- a new thing that never changes -/
theorem Sta.new (s : Sta K F G0 cs H) (h : H p = none) : Sta K F (pur F cs H) cs (upd H p o) ∧ pur F cs (upd H p o) p = some o := by
  have hF : F p = none := s.fr.back h
  have hc : p ∉ adr cs := fun z => by
    obtain ⟨⟨a, m⟩, hm, e⟩ := List.mem_map.mp z
    obtain ⟨u, hu, _⟩ := s.ow a m hm
    have e' : a = p := e
    rw [e', h] at hu; cases hu
  have g : Ex (pur F cs H) (pur F cs (upd H p o)) := fun b u e => by
    obtain ⟨e1, e2, e3⟩ := pur_of e
    rw [pur_at e2 e3, upd_ne (ne_of_none e1 h)]; exact e1
  refine ⟨⟨s.fr.trans (Ex.new h), g, s.nd, s.ap, fun a m hm => ?_, s.ft⟩, by rw [pur_at hF hc, upd_same]⟩
  obtain ⟨u, hu, q⟩ := s.ow a m hm
  exact ⟨u, by rw [upd_ne (ne_of_none hu h)]; exact hu, q.mono g⟩
theorem Sta.notin (s : Sta K F G0 cs H) (h : H p = none) : F p = none ∧ p ∉ adr cs := by
  refine ⟨s.fr.back h, fun z => ?_⟩
  obtain ⟨⟨a, m⟩, hm, e⟩ := List.mem_map.mp z
  obtain ⟨u, hu, _⟩ := s.ow a m hm
  have e' : a = p := e
  rw [e', h] at hu; cases hu
/-- a new thing that may change -/
theorem Sta.newM (s : Sta K F G0 cs H) (h : H p = none) (q : MoOk K (pur F cs H) m o) : Sta K F (pur F cs H) ((p, m) :: cs) (upd H p o) := by
  obtain ⟨hF, hc⟩ := s.notin h
  have g : Ex (pur F cs H) (pur F ((p, m) :: cs) (upd H p o)) := fun b u e => by
    obtain ⟨e1, e2, e3⟩ := pur_of e
    have hb : b ≠ p := ne_of_none e1 h
    rw [pur_at e2 (by show b ∉ p :: adr cs; simp [hb, e3]), upd_ne hb]; exact e1
  refine ⟨s.fr.trans (Ex.new h), g, ?_, ?_, ?_, s.ft⟩
  · show (p :: adr cs).Nodup
    exact List.nodup_cons.mpr ⟨hc, s.nd⟩
  · intro a ha
    rcases List.mem_cons.mp (show a ∈ p :: adr cs from ha) with e | e
    · rw [e]; exact hF
    · exact s.ap a e
  · intro a m' hm
    rcases List.mem_cons.mp hm with e | e
    · cases e
      exact ⟨o, upd_same, q.mono g⟩
    · obtain ⟨u, hu, r⟩ := s.ow a m' e
      exact ⟨u, by rw [upd_ne (ne_of_none hu h)]; exact hu, r.mono g⟩
/-- the content of p replaced -/
def put (p : Addr) (m : MO) : Cs → Cs
  | [] => []
  | (a, x) :: r => if a = p then (a, m) :: r else (a, x) :: put p m r
def look (p : Addr) : Cs → Option MO
  | [] => none
  | (a, x) :: r => if a = p then some x else look p r
theorem adr_put (p : Addr) (m : MO) : ∀ cs : Cs, adr (put p m cs) = adr cs
  | [] => rfl
  | (a, x) :: r => by
    unfold put
    split
    · rfl
    · show a :: adr (put p m r) = a :: adr r
      rw [adr_put p m r]
theorem look_mem {p : Addr} {m : MO} : ∀ {cs : Cs}, look p cs = some m → (p, m) ∈ cs
  | [], h => by cases h
  | (a, x) :: r, h => by
    unfold look at h
    split at h
    · rename_i e
      cases h; cases e
      exact List.mem_cons_self ..
    · exact List.mem_cons_of_mem _ (look_mem h)
theorem look_put {p : Addr} {m m' : MO} : ∀ {cs : Cs}, look p cs = some m → look p (put p m' cs) = some m'
  | [], h => by cases h
  | (a, x) :: r, h => by
    unfold look at h
    unfold put
    split at h
    · rename_i e
      rw [if_pos e]
      unfold look
      rw [if_pos e]
    · rename_i e
      rw [if_neg e]
      unfold look
      rw [if_neg e]
      exact look_put h
theorem look_put_ne {p q : Addr} {m : MO} (hn : q ≠ p) : ∀ {cs : Cs}, look q (put p m cs) = look q cs
  | [] => rfl
  | (a, x) :: r => by
    unfold put
    split
    · rename_i e
      unfold look
      rw [if_neg (fun z => hn (z.symm.trans e)), if_neg (fun z => hn (z.symm.trans e))]
    · unfold look
      rw [look_put_ne hn]
theorem put_put {p : Addr} {m m' : MO} : ∀ {cs : Cs}, put p m' (put p m cs) = put p m' cs
  | [] => rfl
  | (a, x) :: r => by
    by_cases e : a = p
    · have e1 : put p m ((a, x) :: r) = (a, m) :: r := by simp [put, e]
      have e2 : put p m' ((a, x) :: r) = (a, m') :: r := by simp [put, e]
      rw [e1, e2]; simp [put, e]
    · have e1 : put p m ((a, x) :: r) = (a, x) :: put p m r := by simp [put, e]
      have e2 : put p m' ((a, x) :: r) = (a, x) :: put p m' r := by simp [put, e]
      rw [e1, e2]
      have ih := put_put (p := p) (m := m) (m' := m') (cs := r)
      simp [put, e, ih]
theorem mem_put {p a : Addr} {m x : MO} : ∀ {cs : Cs}, (adr cs).Nodup → (a, x) ∈ put p m cs → (a = p ∧ x = m) ∨ (a ≠ p ∧ (a, x) ∈ cs)
  | [], _, h => by cases h
  | (b, y) :: r, nd, h => by
    have nd' : (b :: adr r).Nodup := nd
    obtain ⟨n1, n2⟩ := List.nodup_cons.mp nd'
    unfold put at h
    split at h
    · rename_i e
      rcases List.mem_cons.mp h with q | q
      · cases q; exact .inl ⟨e, rfl⟩
      · refine .inr ⟨fun z => n1 ?_, List.mem_cons_of_mem _ q⟩
        rw [e, ← z]; exact List.mem_map.mpr ⟨(a, x), q, rfl⟩
    · rename_i e
      rcases List.mem_cons.mp h with q | q
      · cases q; exact .inr ⟨e, List.mem_cons_self ..⟩
      · rcases mem_put n2 q with z | z
        · exact .inl z
        · exact .inr ⟨z.1, List.mem_cons_of_mem _ z.2⟩
theorem Sta.put (s : Sta K F G0 cs H) (hl : look p cs = some m) {m' : MO} {o' : HO} (q : MoOk K (pur F cs H) m' o') : Sta K F (pur F cs H) (put p m' cs) (upd H p o') := by
  have hp : p ∈ adr cs := List.mem_map.mpr ⟨(p, m), look_mem hl, rfl⟩
  have hF := s.ap p hp
  have e : pur F (DL.put p m' cs) (upd H p o') = pur F cs H := by
    funext b
    unfold pur
    rw [adr_put]
    by_cases hb : b = p
    · subst hb
      rw [if_pos (.inr hp), if_pos (.inr hp)]
    · rw [upd_ne hb]
  refine ⟨fun b u h => ?_, by rw [e]; exact Ex.refl _, by rw [adr_put]; exact s.nd, by rw [adr_put]; exact s.ap, fun a x hx => ?_, s.ft⟩
  · rw [upd_ne (fun z => by rw [z, hF] at h; cases h)]; exact s.fr b u h
  · rw [e]
    rcases mem_put s.nd hx with ⟨e1, e2⟩ | ⟨e1, e2⟩
    · subst e1 e2; exact ⟨o', upd_same, q⟩
    · obtain ⟨u, hu, r⟩ := s.ow a x e2
      exact ⟨u, by rw [upd_ne e1]; exact hu, r⟩
theorem Sta.look (s : Sta K F G0 cs H) (hl : DL.look p cs = some m) : ∃ o, H p = some o ∧ MoOk K (pur F cs H) m o := s.ow p m (look_mem hl)
end
abbrev Env := List (Option D)
structure Exn where
  cls : Str
  fs : List (Str × D)
abbrev XZ := Exn → Cs → Prop
abbrev DP := D → Cs → Prop
abbrev WE := Env → Cs → DP → XZ → Prop
abbrev WT := Env → Cs → (Bool → Cs → Prop) → XZ → Prop
abbrev WA := Env → Cs → (List D → Cs → Prop) → XZ → Prop
structure Fin where
  nx : Env → Cs → Prop
  rt : D → Cs → Prop
  ex : Exn → Env → Cs → Prop := fun _ _ _ => False
  bk : Env → Cs → Prop := fun _ _ => False
  ct : Env → Cs → Prop := fun _ _ => False
abbrev WS := Fin → Env → Cs → Prop
inductive RepO (K : PySem.W.Frag) (G : Hp) : Option V → Option D → Prop
  | skip {o : Option V} : RepO K G o none
  | held {v : V} {d : D} : Rep K G v d → RepO K G (some v) (some d)
inductive RepE (K : PySem.W.Frag) (G : Hp) : St → Env → Prop
  | nil : RepE K G [] []
  | cons {v : Option V} {d : Option D} {σ : St} {ρ : Env} : RepO K G v d → RepE K G σ ρ → RepE K G (v :: σ) (d :: ρ)
section
variable {K : PySem.W.Frag} {G G' : Hp}
theorem RepO.mono (e : Ex G G') {v : Option V} {d : Option D} : RepO K G v d → RepO K G' v d
  | .skip => .skip
  | .held h => .held (h.mono e)
theorem RepE.mono (e : Ex G G') : ∀ {σ : St} {ρ : Env}, RepE K G σ ρ → RepE K G' σ ρ
  | _, _, .nil => .nil
  | _, _, .cons h r => .cons (h.mono e) (r.mono e)
theorem RepE.get : ∀ {σ : St} {ρ : Env} {i : Nat} {d : D}, RepE K G σ ρ → ρ[i]? = some (some d) → ∃ v, σ[i]? = some (some v) ∧ Rep K G v d
  | _, _, _, _, .nil, e => by simp at e
  | _, _, 0, _, .cons h _, e => by
    simp at e; subst e
    cases h with
    | held h => exact ⟨_, rfl, h⟩
  | _, _, i + 1, d, .cons _ r, e => by
    obtain ⟨u, h1, h2⟩ := RepE.get (i := i) (d := d) r (by simpa using e)
    exact ⟨u, by simpa using h1, h2⟩
theorem RepE.set {v : V} {d : D} (h : Rep K G v d) : ∀ {σ : St} {ρ : Env} (i : Nat), RepE K G σ ρ → RepE K G (σ.set i (some v)) (ρ.set i (some d))
  | _, _, _, .nil => .nil
  | _, _, 0, .cons _ r => .cons (.held h) r
  | _, _, i + 1, .cons q r => .cons q (r.set h i)
theorem RepE.start : ∀ {vs : List V} {ds : List D} (n : Nat), RepL K G vs ds → RepE K G (vs.map some ++ List.replicate n none) (ds.map some ++ List.replicate n none)
  | _, _, n, .nil => by
    induction n with
    | zero => exact .nil
    | succ n ih => exact .cons .skip ih
  | _, _, n, .cons h r => .cons (.held h) (RepE.start n r)
end
/-- an exception's dict -/
def XR (K : PySem.W.Frag) (G : Hp) (d : Option Addr) (fs : List (Str × D)) : Prop := ∃ a xs, d = some a ∧ G a = some (.xd xs) ∧ RepX K G xs fs
theorem XR.mono {K : PySem.W.Frag} {G G' : Hp} {d : Option Addr} {fs : List (Str × D)} (h : XR K G d fs) (e : Ex G G') : XR K G' d fs := by
  obtain ⟨a, xs, e1, e2, e3⟩ := h
  exact ⟨a, xs, e1, e _ _ e2, e3.mono e⟩
/-- what is due behind: by value, by exception -/
def PostE (K : PySem.W.Frag) (F G : Hp) (P : DP) (Q : VK) : Prop := ∀ H' cs' v d, Sta K F G cs' H' → Rep K (pur F cs' H') v d → P d cs' → Q v H'
def PostX (K : PySem.W.Frag) (F G : Hp) (Z : XZ) (W : Value → Option Addr → Hp → Prop) : Prop := ∀ H' cs' x d, Sta K F G cs' H' → XR K (pur F cs' H') d x.fs → Z x cs' → W (.ref (He.ga K x.cls)) d H'
theorem PostE.le {K : PySem.W.Frag} {F G G' : Hp} {P : DP} {Q : VK} (h : PostE K F G P Q) (e : Ex G G') : PostE K F G' P Q := fun H' cs' v d s r p => h H' cs' v d (s.from_ e) r p
theorem PostX.le {K : PySem.W.Frag} {F G G' : Hp} {Z : XZ} {W : Value → Option Addr → Hp → Prop} (h : PostX K F G Z W) (e : Ex G G') : PostX K F G' Z W := fun H' cs' x d s r p => h H' cs' x d (s.from_ e) r p
def lE (K : PySem.W.Frag) (W : WX) (w : WE) : TE := fun σ H Q => ∃ F cs ρ P Z, Sta K F (pur F cs H) cs H ∧ RepE K (pur F cs H) σ ρ ∧ w ρ cs P Z ∧ PostE K F (pur F cs H) P Q ∧ PostX K F (pur F cs H) Z fun c d H' => W c d σ H'
def lT (K : PySem.W.Frag) (W : WX) (w : WT) : TT := fun σ H Q => ∃ F cs ρ P Z, Sta K F (pur F cs H) cs H ∧ RepE K (pur F cs H) σ ρ ∧ w ρ cs P Z ∧ (∀ H' cs' b, Sta K F (pur F cs H) cs' H' → P b cs' → Q b H') ∧ PostX K F (pur F cs H) Z fun c d H' => W c d σ H'
def lA (K : PySem.W.Frag) (W : WX) (n : Nat) (w : WA) : TA := fun σ H Q => ∃ F cs ρ P Z, Sta K F (pur F cs H) cs H ∧ RepE K (pur F cs H) σ ρ ∧ w ρ cs P Z ∧
  (∀ H' cs' vs ds, Sta K F (pur F cs H) cs' H' → RepL K (pur F cs' H') vs ds → ds.length = n → P ds cs' → Q vs H') ∧ PostX K F (pur F cs H) Z fun c d H' => W c d σ H'
structure PostS (K : PySem.W.Frag) (F G : Hp) (W : WX) (f : Fin) (E : Ends) : Prop where
  nx : ∀ H' cs' σ' ρ', Sta K F G cs' H' → RepE K (pur F cs' H') σ' ρ' → f.nx ρ' cs' → E.nx σ' H'
  bk : ∀ H' cs' σ' ρ', Sta K F G cs' H' → RepE K (pur F cs' H') σ' ρ' → f.bk ρ' cs' → E.bk σ' H'
  ct : ∀ H' cs' σ' ρ', Sta K F G cs' H' → RepE K (pur F cs' H') σ' ρ' → f.ct ρ' cs' → E.ct σ' H'
  rt : PostE K F G f.rt E.rt
  ex : ∀ H' cs' σ' ρ' x d, Sta K F G cs' H' → RepE K (pur F cs' H') σ' ρ' → XR K (pur F cs' H') d x.fs → f.ex x ρ' cs' → W (.ref (He.ga K x.cls)) d σ' H'
theorem PostS.le {K : PySem.W.Frag} {F G G' : Hp} {W : WX} {f : Fin} {E : Ends} (h : PostS K F G W f E) (e : Ex G G') : PostS K F G' W f E :=
  ⟨fun H' cs' σ' ρ' s => h.nx H' cs' σ' ρ' (s.from_ e), fun H' cs' σ' ρ' s => h.bk H' cs' σ' ρ' (s.from_ e), fun H' cs' σ' ρ' s => h.ct H' cs' σ' ρ' (s.from_ e), h.rt.le e, fun H' cs' σ' ρ' x d s => h.ex H' cs' σ' ρ' x d (s.from_ e)⟩
def lS (K : PySem.W.Frag) (W : WX) (w : WS) : TS := fun E σ H => ∃ F cs ρ f, Sta K F (pur F cs H) cs H ∧ RepE K (pur F cs H) σ ρ ∧ w f ρ cs ∧ PostS K F (pur F cs H) W f E
abbrev DE (X : Cx) (W : WX) (e : Expr) (w : WE) : Prop := PE X e (lE X.K W w)
abbrev DT (X : Cx) (W : WX) (e : Expr) (w : WT) : Prop := PT X e (lT X.K W w)
abbrev DW (X : Cx) (W : WX) (e : Expr) (w : WT) : Prop := PW X e (lT X.K W w)
abbrev DA (X : Cx) (W : WX) (es : List Expr) (w : WA) : Prop := PA X es (lA X.K W es.length w)
abbrev DS (X : Cx) (W : WX) (st : Stmt) (w : WS) : Prop := PS X st (lS X.K W w)
abbrev DSs (X : Cx) (W : WX) (st : List Stmt) (w : WS) : Prop := PSs X st (lS X.K W w)
theorem PE.imp {X : Cx} {e : Expr} {t t' : TE} (h : PE X e t) (i : ∀ σ H Q, t' σ H Q → t σ H Q) : PE X e t' := ⟨fun pins s σ H Q I q => h.run pins s σ H Q I (i σ H Q q)⟩
theorem PT.imp {X : Cx} {e : Expr} {t t' : TT} (h : PT X e t) (i : ∀ σ H Q, t' σ H Q → t σ H Q) : PT X e t' := ⟨fun pins s σ H Q I q => h.run pins s σ H Q I (i σ H Q q)⟩
theorem PW.imp {X : Cx} {e : Expr} {t t' : TT} (h : PW X e t) (i : ∀ σ H Q, t' σ H Q → t σ H Q) : PW X e t' := ⟨fun wh pins s σ H Q I q => h.run wh pins s σ H Q I (i σ H Q q)⟩
theorem PA.imp {X : Cx} {e : List Expr} {t t' : TA} (h : PA X e t) (i : ∀ σ H Q, t' σ H Q → t σ H Q) : PA X e t' := ⟨fun pos pins s σ H Q I q => h.run pos pins s σ H Q I (i σ H Q q)⟩
theorem PS.imp {X : Cx} {st : Stmt} {t t' : TS} (h : PS X st t) (i : ∀ E σ H, t' E σ H → t E σ H) : PS X st t' := ⟨fun pins s σ H E I q => h.run pins s σ H E I (i E σ H q)⟩
theorem PSs.imp {X : Cx} {st : List Stmt} {t t' : TS} (h : PSs X st t) (i : ∀ E σ H, t' E σ H → t E σ H) : PSs X st t' := ⟨fun pins s σ H E I q => h.run pins s σ H E I (i E σ H q)⟩
end DL
namespace DL
open PySem L2
section
variable {X : Cx} {W : WX} {K : PySem.W.Frag} {σ : St} {H : Hp}
def wVar (i : Nat) : WE := fun ρ cs P _ => match ρ[i]? with
  | some (some d) => P d cs
  | _ => False
theorem d_var (i : Nat) {x : Str} {pos : Pos} (hN : X.N[i]? = some x := by rfl) (hv : Vis X.env.scope x := by first | exact Or.inl rfl | exact Or.inr (Or.inl rfl) | exact Or.inr (Or.inr rfl)) (hd : (x == ("__debug__" : Str)) = false := by decide)
    (hcd : (x == ("__classdict__" : Str)) = false := by decide) : DE X W (.Name x pos) (wVar i) :=
  PE.imp (pe_var (i := i) hN hv hd hcd) fun σ H Q ⟨F, cs, ρ, P, Z, s, re, hw, pe, px⟩ => by
    unfold wVar at hw
    split at hw
    · rename_i d e
      obtain ⟨v, h1, h2⟩ := re.get e
      exact ⟨v, h1, pe H cs v d s h2 hw⟩
    · exact hw.elim
def wC (d : D) : WE := fun _ cs P _ => P d cs
theorem d_of {e : Expr} {v : V} {d : D} (h : PE X e (tC v)) (r : ∀ G, Rep X.K G v d) : DE X W e (wC d) :=
  PE.imp h fun σ H Q ⟨F, cs, ρ, P, Z, s, re, hw, pe, px⟩ => pe H cs v d s (r _) hw
theorem d_int {i j pos} : DE X W (.Constant (.int i) j pos) (wC (.int i)) := d_of pe_int fun _ => .int _
theorem d_bl {b j pos} : DE X W (.Constant (.bool b) j pos) (wC (.bl b)) := d_of pe_bl fun _ => .bl _
theorem d_non {j pos} : DE X W (.Constant .none j pos) (wC .non) := d_of pe_non fun _ => .non
theorem d_str {x j pos} : DE X W (.Constant (.str x) j pos) (wC (.str x)) := d_of pe_str fun _ => .str _
abbrev DO2 := D → D → Cs → DP → Prop
def Adq (K : PySem.W.Frag) (r : R2) (o : DO2) : Prop := ∀ F cs H x y dx dy P Q, Sta K F (pur F cs H) cs H → Rep K (pur F cs H) x dx → Rep K (pur F cs H) y dy → o dx dy cs P → PostE K F (pur F cs H) P Q → r x y H Q
def wOp (o : DO2) (wa wb : WE) : WE := fun ρ cs P Z => wa ρ cs (fun x cs1 => wb ρ cs1 (fun y cs2 => o x y cs2 P) Z) Z
theorem bin_ok {r : R2} {o : DO2} {wa wb : WE} (adq : Adq K r o) {Q : VK} : lE K W (wOp o wa wb) σ H Q → tOp r (lE K W wa) (lE K W wb) σ H Q := by
  rintro ⟨F, cs, ρ, P, Z, s, re, hw, pe, px⟩
  refine ⟨F, cs, ρ, _, Z, s, re, hw, fun H1 cs1 v d s1 r1 h1 => ?_, px⟩
  refine ⟨F, cs1, ρ, _, Z, s1.self, re.mono s1.gr, h1, fun H2 cs2 v2 d2 s2 r2 h2 => ?_, px.le s1.gr⟩
  exact adq F cs2 H2 v v2 d d2 P Q s2.self (r1.mono s2.gr) r2 h2 (pe.le (s1.gr.trans s2.gr))
theorem d_op {op : Operator} {r : R2} {o : DO2} {a b : Expr} {wa wb : WE} {pos : Pos} (ho : OpR X (binaryOp op) r) (adq : Adq X.K r o) (ha : DE X W a wa) (hb : DE X W b wb) : DE X W (.BinOp a op b pos) (wOp o wa wb) :=
  PE.imp (pe_op ho ha hb) fun _ _ _ h => bin_ok adq h
theorem d_cmp {op : CmpOp} {r : R2} {o : DO2} {a b : Expr} {wa wb : WE} {pos : Pos} (ho : OpR X (compareOp op) r) (adq : Adq X.K r o) (ha : DE X W a wa) (hb : DE X W b wb) (hm : behindInMarks op b = false) : DE X W (.Compare a [op] [b] pos) (wOp o wa wb) :=
  PE.imp (pe_cmpR ho ha hb hm) fun _ _ _ h => bin_ok adq h
theorem d_ix {r : R2} {o : DO2} {a b : Expr} {wa wb : WE} {pos : Pos} (ho : IxR X r) (adq : Adq X.K r o) (ha : DE X W a wa) (hb : DE X W b wb) (hs : PlainIx b := by intro _ _; rfl) : DE X W (.Subscript a b pos) (wOp o wa wb) :=
  PE.imp (pe_ix ho ha hb hs) fun _ _ _ h => bin_ok adq h
def oI (g : Int → Int → D) : DO2 := fun x y cs P => match x, y with
  | .int i, .int j => P (g i j) cs
  | _, _ => False
def oIC (C : Int → Int → Prop) (g : Int → Int → D) : DO2 := fun x y cs P => match x, y with
  | .int i, .int j => C i j ∧ P (g i j) cs
  | _, _ => False
theorem adq_I0 {g : Int → Int → V} {g' : Int → Int → D} (h : ∀ i j G, Rep K G (g i j) (g' i j)) : Adq K (rI0 g) (oI g') := fun F cs H x y dx dy P Q s rx ry ho pe => by
  unfold oI at ho
  split at ho
  · cases rx; cases ry; exact ⟨_, _, rfl, rfl, pe H cs _ _ s (h _ _ _) ho⟩
  · exact ho.elim
theorem adq_I {C : Int → Int → Prop} {g : Int → Int → V} {g' : Int → Int → D} (h : ∀ i j G, Rep K G (g i j) (g' i j)) : Adq K (rI C g) (oIC C g') := fun F cs H x y dx dy P Q s rx ry ho pe => by
  unfold oIC at ho
  split at ho
  · cases rx; cases ry; exact ⟨_, _, rfl, rfl, ho.1, pe H cs _ _ s (h _ _ _) ho.2⟩
  · exact ho.elim
theorem op_mulX : OpR X (binaryOp .Mult) (rI IntMulOk fun i j => .int (i * j)) := opI fun _ _ _ _ _ _ _ hc q => PyProof.Rows.mul_int q hc
variable {a b : Expr} {wa wb : WE} {pos : Pos}
def oAdd : DO2 := oI fun i j => .int (i + j)
def oSub : DO2 := oI fun i j => .int (i - j)
def oMul : DO2 := oIC IntMulOk fun i j => .int (i * j)
def oDiv : DO2 := oIC CDivW fun i j => .int (i / j)
def oMod : DO2 := oIC (fun _ j => 0 < j) fun i j => .int (i % j)
def oPow : DO2 := oIC CPow fun i j => .int (i ^ j.toNat)
theorem d_add (ha : DE X W a wa) (hb : DE X W b wb) : DE X W (.BinOp a .Add b pos) (wOp oAdd wa wb) := d_op op_add (adq_I0 fun _ _ _ => .int _) ha hb
theorem d_sub (ha : DE X W a wa) (hb : DE X W b wb) : DE X W (.BinOp a .Sub b pos) (wOp oSub wa wb) := d_op op_sub (adq_I0 fun _ _ _ => .int _) ha hb
theorem d_mul (ha : DE X W a wa) (hb : DE X W b wb) : DE X W (.BinOp a .Mult b pos) (wOp oMul wa wb) := d_op op_mulX (adq_I fun _ _ _ => .int _) ha hb
theorem d_fdiv (ha : DE X W a wa) (hb : DE X W b wb) : DE X W (.BinOp a .FloorDiv b pos) (wOp oDiv wa wb) := d_op op_fdivW (adq_I fun _ _ _ => .int _) ha hb
theorem d_mod (ha : DE X W a wa) (hb : DE X W b wb) : DE X W (.BinOp a .Mod b pos) (wOp oMod wa wb) := d_op op_mod (adq_I fun _ _ _ => .int _) ha hb
theorem d_pow (ha : DE X W a wa) (hb : DE X W b wb) : DE X W (.BinOp a .Pow b pos) (wOp oPow wa wb) := d_op op_pow (adq_I fun _ _ _ => .int _) ha hb
def oLt : DO2 := oI fun i j => .bl (decide (i < j))
def oLe : DO2 := oI fun i j => .bl (decide (i ≤ j))
def oGt : DO2 := oI fun i j => .bl (decide (j < i))
def oGe : DO2 := oI fun i j => .bl (decide (j ≤ i))
theorem d_gt (ha : DE X W a wa) (hb : DE X W b wb) : DE X W (.Compare a [.Gt] [b] pos) (wOp oGt wa wb) := d_cmp op_gt (adq_I0 fun _ _ _ => .bl _) ha hb (nomark _)
def wUn (o : D → Cs → DP → Prop) (wa : WE) : WE := fun ρ cs P Z => wa ρ cs (fun x cs1 => o x cs1 P) Z
def oNeg : D → Cs → DP → Prop := fun x cs P => match x with
  | .int i => P (.int (-i)) cs
  | _ => False
theorem oNeg_inv {x : D} {cs : Cs} {P : DP} (h : oNeg x cs P) : ∃ i, x = .int i ∧ P (.int (-i)) cs := by
  cases x <;> first | exact h.elim | exact ⟨_, rfl, h⟩
theorem d_neg (ha : DE X W a wa) : DE X W (.UnaryOp .USub a pos) (wUn oNeg wa) := PE.imp (pe_un un_neg ha) fun σ H Q ⟨F, cs, ρ, P, Z, s, re, hw, pe, px⟩ =>
  ⟨F, cs, ρ, _, Z, s, re, hw, fun H1 cs1 v d s1 r1 h1 => by
    obtain ⟨i, rfl, h⟩ := oNeg_inv h1
    cases r1
    exact ⟨_, rfl, pe H1 cs1 _ _ s1 (.int _) h⟩, px⟩
mutual
def pyD : D → PyData
  | .bl b => .bool b
  | .int i => .int i
  | .str x => .str x
  | .tup xs => .tuple (pyL xs)
  | .lst xs => .list (pyL xs)
  | .non | .dic _ | .dct _ | .opq _ | .ins _ _ | .xcp _ _ _ _ => .none
def pyL : List D → List PyData
  | [] => []
  | d :: ds => pyD d :: pyL ds
end
mutual
/-- plain data: no dict, nothing opaque, at most n levels of lists and tuples -/
def plD : Nat → D → Bool
  | n + 1, .tup xs => decide (xs.length ≤ 100000) && plL n xs
  | n + 1, .lst xs => decide (xs.length ≤ 100000) && plL n xs
  | _, .non | _, .bl _ | _, .int _ | _, .str _ => true
  | _, _ => false
def plL : Nat → List D → Bool
  | _, [] => true
  | n, d :: ds => plD n d && plL n ds
end
theorem plD_t {n : Nat} {xs : List D} (h : plD (n + 1) (.tup xs) = true) : plL n xs = true := by
  simp only [plD, Bool.and_eq_true] at h; exact h.2
theorem plD_l {n : Nat} {xs : List D} (h : plD (n + 1) (.lst xs) = true) : plL n xs = true := by
  simp only [plD, Bool.and_eq_true] at h; exact h.2
theorem plD_tn {n : Nat} {xs : List D} (h : plD (n + 1) (.tup xs) = true) : xs.length ≤ 100000 := by
  simp only [plD, Bool.and_eq_true, decide_eq_true_eq] at h; exact h.1
theorem plD_ln {n : Nat} {xs : List D} (h : plD (n + 1) (.lst xs) = true) : xs.length ≤ 100000 := by
  simp only [plD, Bool.and_eq_true, decide_eq_true_eq] at h; exact h.1
theorem plD_tI {n : Nat} {xs : List D} (h : plL n xs = true) (hl : xs.length ≤ 100000) : plD (n + 1) (.tup xs) = true := by
  simp only [plD, Bool.and_eq_true, decide_eq_true_eq]; exact ⟨hl, h⟩
theorem plD_lI {n : Nat} {xs : List D} (h : plL n xs = true) (hl : xs.length ≤ 100000) : plD (n + 1) (.lst xs) = true := by
  simp only [plD, Bool.and_eq_true, decide_eq_true_eq]; exact ⟨hl, h⟩
mutual
def eqD : D → D → Bool
  | .non, .non => true
  | .bl a, .bl b => a == b
  | .bl a, .int j => (if a then 1 else 0) == j
  | .int i, .bl b => i == (if b then 1 else 0)
  | .int i, .int j => i == j
  | .str x, .str y => x == y
  | .lst xs, .lst ys => eqL xs ys
  | .tup xs, .tup ys => eqL xs ys
  | _, _ => false
def eqL : List D → List D → Bool
  | [], [] => true
  | x :: xs, y :: ys => eqD x y && eqL xs ys
  | _, _ => false
end
mutual
theorem plD_plain : ∀ (d : D) (n : Nat), plD n d = true → (pyD d).plain = true ∧ (pyD d).depth ≤ n
  | .non, n, _ => ⟨by simp [pyD, PyData.plain], by simp [pyD, PyData.depth]⟩
  | .bl _, n, _ => ⟨by simp [pyD, PyData.plain], by simp [pyD, PyData.depth]⟩
  | .int _, n, _ => ⟨by simp [pyD, PyData.plain], by simp [pyD, PyData.depth]⟩
  | .str _, n, _ => ⟨by simp [pyD, PyData.plain], by simp [pyD, PyData.depth]⟩
  | .tup xs, 0, h => by simp [plD] at h
  | .lst xs, 0, h => by simp [plD] at h
  | .tup xs, n + 1, h => by
    have h' := plL_plain xs n (plD_t h)
    simp only [pyD, PyData.plain, PyData.depth]
    exact ⟨h'.1, Nat.succ_le_succ h'.2⟩
  | .lst xs, n + 1, h => by
    have h' := plL_plain xs n (plD_l h)
    simp only [pyD, PyData.plain, PyData.depth]
    exact ⟨h'.1, Nat.succ_le_succ h'.2⟩
  | .dic _, n, h => by cases n <;> simp [plD] at h
  | .dct _, n, h => by cases n <;> simp [plD] at h
  | .ins _ _, n, h => by cases n <;> simp [plD] at h
  | .xcp _ _ _ _, n, h => by cases n <;> simp [plD] at h
  | .opq _, n, h => by cases n <;> simp [plD] at h
theorem plL_plain : ∀ (ds : List D) (n : Nat), plL n ds = true → PyData.plainAll (pyL ds) = true ∧ PyData.depthAll (pyL ds) ≤ n
  | [], n, _ => ⟨by simp [pyL, PyData.plainAll], by simp [pyL, PyData.depthAll]⟩
  | d :: ds, n, h => by
    simp only [plL, Bool.and_eq_true] at h
    have h1 := plD_plain d n h.1
    have h2 := plL_plain ds n h.2
    simp only [pyL, PyData.plainAll, PyData.depthAll, Bool.and_eq_true]
    exact ⟨⟨h1.1, h2.1⟩, Nat.max_le.mpr ⟨h1.2, h2.2⟩⟩
end
mutual
theorem eqD_eqv : ∀ (d e : D) (n m : Nat), plD n d = true → plD m e = true → PyData.eqv (pyD d) (pyD e) = eqD d e := by
  intro d e n m hd he
  cases d <;> cases e <;> first
    | (simp [pyD, PyData.eqv, eqD]; done)
    | (cases n <;> simp [plD] at hd; done)
    | (cases m <;> simp [plD] at he; done)
    | (cases n with
       | zero => simp [plD] at hd
       | succ n => cases m with
         | zero => simp [plD] at he
         | succ m => simp only [pyD, PyData.eqv, eqD]; exact eqL_eqv _ _ n m (by first | exact plD_t hd | exact plD_l hd) (by first | exact plD_t he | exact plD_l he))
theorem eqL_eqv : ∀ (d e : List D) (n m : Nat), plL n d = true → plL m e = true → PyData.eqvAll (pyL d) (pyL e) = eqL d e
  | [], [], _, _, _, _ => by simp [pyL, PyData.eqvAll, eqL]
  | [], _ :: _, _, _, _, _ => by simp [pyL, PyData.eqvAll, eqL]
  | _ :: _, [], _, _, _, _ => by simp [pyL, PyData.eqvAll, eqL]
  | d :: ds, e :: es, n, m, hd, he => by
    simp only [plL, Bool.and_eq_true] at hd he
    simp only [pyL, PyData.eqvAll, eqL]
    rw [eqD_eqv d e n m hd.1 he.1, eqL_eqv ds es n m hd.2 he.2]
end
mutual
theorem Rep.dp {G : Hp} (e : Ex G H) : ∀ {v : V} {d : D} (n : Nat), Rep K G v d → plD n d = true → Dp K H v (pyD d)
  | _, _, n, .non, _ => .non
  | _, _, n, .bl b, _ => .bl b
  | _, _, n, .int i, _ => .int i
  | _, _, n, .str x, _ => .str x
  | _, _, n, .opq v, h => by cases n <;> simp [plD] at h
  | _, _, 0, .lst h r, p => by simp [plD] at p
  | _, _, 0, .tup h r, p => by simp [plD] at p
  | _, _, n + 1, .lst h r, p => by
    simp only [pyD]
    exact .lst (ex_l e h) (RepL.dp e n r (plD_l p))
  | _, _, n + 1, .tup h r, p => by
    simp only [pyD]
    exact .tup (ex_t e h) (RepL.dp e n r (plD_t p))
  | _, _, n, .dic _ _, h => by cases n <;> simp [plD] at h
  | _, _, n, .dct _ _, h => by cases n <;> simp [plD] at h
  | _, _, n, .ins _ _ _, h => by cases n <;> simp [plD] at h
  | _, _, n, .xcp _ _, h => by cases n <;> simp [plD] at h
theorem RepL.dp {G : Hp} (e : Ex G H) : ∀ {v : List V} {d : List D} (n : Nat), RepL K G v d → plL n d = true → DpAll K H v (pyL d)
  | _, _, _, .nil, _ => by simp only [pyL]; exact .nil
  | _, _, n, .cons h r, p => by
    simp only [plL, Bool.and_eq_true] at p
    simp only [pyL]
    exact .cons (Rep.dp e n h p.1) (RepL.dp e n r p.2)
end
theorem pur_le {F : Hp} {cs : Cs} : Ex (pur F cs H) H := fun _ _ h => (pur_of h).1
/-- x == y of plain data -/
def oEq : DO2 := fun x y cs P => plD 20 x = true ∧ plD 20 y = true ∧ P (.bl (eqD x y)) cs
def oNe : DO2 := fun x y cs P => plD 20 x = true ∧ plD 20 y = true ∧ P (.bl (!eqD x y)) cs
def rEqP (K : PySem.W.Frag) : R2 := fun x y H Q => ∃ d e, Dp K H x d ∧ Dp K H y e ∧ d.plain = true ∧ e.plain = true ∧ d.depth ≤ 64 ∧ Q (.bl (PyData.eqv d e)) H
def rNeP (K : PySem.W.Frag) : R2 := fun x y H Q => ∃ d e, Dp K H x d ∧ Dp K H y e ∧ d.plain = true ∧ e.plain = true ∧ d.depth ≤ 64 ∧ Q (.bl (!PyData.eqv d e)) H
theorem room_plain {A : Around} {da db : PyData} (h : da.depth ≤ 64) (hu : A.units + 64 < cLine) : A.units + min da.depth db.depth < cLine := by
  have h2 : min da.depth db.depth ≤ da.depth := Nat.min_le_left _ _
  omega
theorem op_eqP (hu : X.A.units + 64 < cLine) : OpR X (compareOp .Eq) (rEqP X.K) := by
  intro pins s σ H x y v u Q I rx ry h
  obtain ⟨d, e, hd, he, p1, p2, p3, q⟩ := h
  obtain ⟨as, r1⟩ := Dp.reads I d x v hd rx
  obtain ⟨bs, r2⟩ := Dp.reads I e y u he ry
  exact PySem.SeqAt.eq_plain r1 r2 p1 p2 (room_plain p3 hu) ⟨.bl _, H, I, rfl, q⟩
theorem op_neP (hu : X.A.units + 64 < cLine) : OpR X (compareOp .NotEq) (rNeP X.K) := by
  intro pins s σ H x y v u Q I rx ry h
  obtain ⟨d, e, hd, he, p1, p2, p3, q⟩ := h
  obtain ⟨as, r1⟩ := Dp.reads I d x v hd rx
  obtain ⟨bs, r2⟩ := Dp.reads I e y u he ry
  exact PySem.SeqAt.ne_plain r1 r2 p1 p2 (room_plain p3 hu) ⟨.bl _, H, I, rfl, q⟩
theorem adq_eq : Adq K (rEqP K) oEq := fun F cs H x y dx dy P Q s rx ry ho pe => by
  obtain ⟨p1, p2, h⟩ := ho
  have a1 := plD_plain dx 20 p1
  have a2 := plD_plain dy 20 p2
  refine ⟨_, _, Rep.dp pur_le 20 rx p1, Rep.dp pur_le 20 ry p2, a1.1, a2.1, Nat.le_trans a1.2 (by decide), ?_⟩
  rw [eqD_eqv dx dy 20 20 p1 p2]
  exact pe H cs _ _ s (.bl _) h
theorem adq_ne : Adq K (rNeP K) oNe := fun F cs H x y dx dy P Q s rx ry ho pe => by
  obtain ⟨p1, p2, h⟩ := ho
  have a1 := plD_plain dx 20 p1
  have a2 := plD_plain dy 20 p2
  refine ⟨_, _, Rep.dp pur_le 20 rx p1, Rep.dp pur_le 20 ry p2, a1.1, a2.1, Nat.le_trans a1.2 (by decide), ?_⟩
  rw [eqD_eqv dx dy 20 20 p1 p2]
  exact pe H cs _ _ s (.bl _) h
theorem d_eq (hu : X.A.units + 64 < cLine) (ha : DE X W a wa) (hb : DE X W b wb) : DE X W (.Compare a [.Eq] [b] pos) (wOp oEq wa wb) := d_cmp (op_eqP hu) adq_eq ha hb (nomark _)
def atD (xs : List D) (i : Int) : Option D := atI xs i
def oIx : DO2 := fun x y cs P => match x, y with
  | .tup xs, .int i => (match atD xs i with
    | some d => P d cs
    | none => False)
  | .lst xs, .int i => (match atD xs i with
    | some d => P d cs
    | none => False)
  | _, _ => False
theorem RepL.atI {G : Hp} {vs : List V} {ds : List D} {i : Int} {d : D} (r : RepL K G vs ds) (h : atI ds i = some d) : ∃ v, atI vs i = some v ∧ Rep K G v d := by
  unfold L2.atI at h ⊢
  rw [r.length]
  cases e : ixN ds.length i with
  | none => rw [e] at h; cases h
  | some j =>
    rw [e] at h
    exact r.get h
theorem adq_ix : Adq K (rIx K) oIx := fun F cs H x y dx dy P Q s rx ry ho pe => by
  unfold oIx at ho
  split at ho
  · rename_i xs i
    cases ry
    cases rx with
    | tup h r =>
      split at ho
      · rename_i d e
        obtain ⟨v, e1, e2⟩ := r.atI e
        exact .inr (.inl ⟨_, _, _, v, rfl, rfl, ex_t pur_le h, e1, pe H cs _ _ s e2 ho⟩)
      · exact ho.elim
  · rename_i xs i
    cases ry
    cases rx with
    | lst h r =>
      split at ho
      · rename_i d e
        obtain ⟨v, e1, e2⟩ := r.atI e
        exact .inl ⟨_, _, _, v, rfl, rfl, ex_l pur_le h, e1, pe H cs _ _ s e2 ho⟩
      · exact ho.elim
  · exact ho.elim
theorem d_sub_ix (ha : DE X W a wa) (hb : DE X W b wb) (hs : PlainIx b := by intro _ _; rfl) : DE X W (.Subscript a b pos) (wOp oIx wa wb) := d_ix ix_seq adq_ix ha hb hs
end
end DL
namespace DL
open PySem L2
section
variable {X : Cx} {W : WX} {K : PySem.W.Frag} {σ : St} {H : Hp} {a b c : Expr} {wa wb wc : WE} {pos : Pos}
def wTest (wa : WE) : WT := fun ρ cs P Z => wa ρ cs (fun x cs1 => match x with
  | .bl k => P k cs1
  | _ => False) Z
theorem test_inv {x : D} {cs : Cs} {P : Bool → Cs → Prop} (h : (match x with | D.bl k => P k cs | _ => False)) : ∃ k, x = .bl k ∧ P k cs := by
  cases x <;> first | exact h.elim | exact ⟨_, rfl, h⟩
/-- a comparison as a test -/
theorem dt_cmp {op : CmpOp} {r : R2} {o : DO2} (ho : OpR X (compareOp op) r) (adq : Adq X.K r o) (ha : DE X W a wa) (hb : DE X W b wb) (hm : behindInMarks op b = false) : DT X W (.Compare a [op] [b] pos) (wTest (wOp o wa wb)) :=
  PT.imp (pt_cmpR ho ha hb hm) fun σ H Q h => by
    obtain ⟨F, cs, ρ, P, Z, s, re, hw, pe, px⟩ := h
    have h2 : lE X.K W (wOp o wa wb) σ H (fun x H' => ∃ k, x = V.bl k ∧ Q k H') := ⟨F, cs, ρ, _, Z, s, re, hw, fun H1 cs1 v d s1 r1 h1 => by
      obtain ⟨k, rfl, h⟩ := test_inv h1
      cases r1
      exact ⟨k, rfl, pe H1 cs1 k s1 h⟩, px⟩
    exact bin_ok adq h2
theorem dt_lt (ha : DE X W a wa) (hb : DE X W b wb) : DT X W (.Compare a [.Lt] [b] pos) (wTest (wOp oLt wa wb)) := dt_cmp op_lt (adq_I0 fun _ _ _ => .bl _) ha hb (nomark _)
theorem dt_gt (ha : DE X W a wa) (hb : DE X W b wb) : DT X W (.Compare a [.Gt] [b] pos) (wTest (wOp oGt wa wb)) := dt_cmp op_gt (adq_I0 fun _ _ _ => .bl _) ha hb (nomark _)
theorem dt_ge (ha : DE X W a wa) (hb : DE X W b wb) : DT X W (.Compare a [.GtE] [b] pos) (wTest (wOp oGe wa wb)) := dt_cmp op_ge (adq_I0 fun _ _ _ => .bl _) ha hb (nomark _)
theorem dt_eq (hu : X.A.units + 64 < cLine) (ha : DE X W a wa) (hb : DE X W b wb) : DT X W (.Compare a [.Eq] [b] pos) (wTest (wOp oEq wa wb)) := dt_cmp (op_eqP hu) adq_eq ha hb (nomark _)
theorem dt_ne (hu : X.A.units + 64 < cLine) (ha : DE X W a wa) (hb : DE X W b wb) : DT X W (.Compare a [.NotEq] [b] pos) (wTest (wOp oNe wa wb)) := dt_cmp (op_neP hu) adq_ne ha hb (nomark _)
/-- an expression that gives a truth value, as a test -/
theorem dt_val {e : Expr} {w : WE} (h : DE X W e w) (he : ∀ whole, isTrue e X.env whole = (do let v ← whole; standAt e.pos; holding [v] (truthy v)) := by intro _; rfl) : DT X W e (wTest w) :=
  PT.imp (pt_val h he) fun σ H Q h => by
    obtain ⟨F, cs, ρ, P, Z, s, re, hw, pe, px⟩ := h
    refine ⟨F, cs, ρ, _, Z, s, re, hw, fun H1 cs1 v d s1 r1 h1 => ?_, px⟩
    obtain ⟨k, rfl, h⟩ := test_inv h1
    cases r1
    exact ⟨k, rfl, pe H1 cs1 k s1 h⟩
variable {ta tb : WT} {rest : List Expr}
def wAnd (ta tb : WT) : WT := fun ρ cs P Z => ta ρ cs (fun k cs1 => (k = true → tb ρ cs1 P Z) ∧ (k = false → P false cs1)) Z
def wOr (ta tb : WT) : WT := fun ρ cs P Z => ta ρ cs (fun k cs1 => (k = true → P true cs1) ∧ (k = false → tb ρ cs1 P Z)) Z
def wNot (ta : WT) : WT := fun ρ cs P Z => ta ρ cs (fun k cs1 => P (!k) cs1) Z
theorem dw_and1 (ha : DT X W a ta) : DW X W (.BoolOp .And [a] pos) ta := pw_and1 ha
theorem dw_or1 (ha : DT X W a ta) : DW X W (.BoolOp .Or [a] pos) ta := pw_or1 ha
theorem dw_and (ha : DT X W a ta) (hb : DW X W (.BoolOp .And (b :: rest) pos) tb) : DW X W (.BoolOp .And (a :: b :: rest) pos) (wAnd ta tb) :=
  PW.imp (pw_and ha hb) fun σ H Q h => by
    obtain ⟨F, cs, ρ, P, Z, s, re, hw, pe, px⟩ := h
    refine ⟨F, cs, ρ, _, Z, s, re, hw, fun H1 cs1 k s1 h1 => ?_, px⟩
    cases k with
    | true => exact iteT ⟨F, cs1, ρ, P, Z, s1.self, re.mono s1.gr, h1.1 rfl, fun H2 cs2 k s2 h2 => pe H2 cs2 k (s2.from_ s1.gr) h2, px.le s1.gr⟩
    | false => exact iteF (pe H1 cs1 false s1 (h1.2 rfl))
theorem dw_or (ha : DT X W a ta) (hb : DW X W (.BoolOp .Or (b :: rest) pos) tb) : DW X W (.BoolOp .Or (a :: b :: rest) pos) (wOr ta tb) :=
  PW.imp (pw_or ha hb) fun σ H Q h => by
    obtain ⟨F, cs, ρ, P, Z, s, re, hw, pe, px⟩ := h
    refine ⟨F, cs, ρ, _, Z, s, re, hw, fun H1 cs1 k s1 h1 => ?_, px⟩
    cases k with
    | false => exact iteF ⟨F, cs1, ρ, P, Z, s1.self, re.mono s1.gr, h1.2 rfl, fun H2 cs2 k s2 h2 => pe H2 cs2 k (s2.from_ s1.gr) h2, px.le s1.gr⟩
    | true => exact iteT (pe H1 cs1 true s1 (h1.1 rfl))
theorem dt_w {e : Expr} (h : DW X W e ta) : DT X W e ta := h.pt
theorem dt_not (ha : DT X W a ta) : DT X W (.UnaryOp .Not a pos) (wNot ta) :=
  PT.imp (pt_not ha) fun σ H Q h => by
    obtain ⟨F, cs, ρ, P, Z, s, re, hw, pe, px⟩ := h
    exact ⟨F, cs, ρ, _, Z, s, re, hw, fun H1 cs1 k s1 h1 => pe H1 cs1 _ s1 h1, px⟩
/-- as values -/
def wAndV (wa wb : WE) : WE := fun ρ cs P Z => wa ρ cs (fun x cs1 => match x with
  | .bl k => (k = true → wb ρ cs1 P Z) ∧ (k = false → P (.bl false) cs1)
  | _ => False) Z
def wOrV (wa wb : WE) : WE := fun ρ cs P Z => wa ρ cs (fun x cs1 => match x with
  | .bl k => (k = true → P (.bl true) cs1) ∧ (k = false → wb ρ cs1 P Z)
  | _ => False) Z
def wNotV (wa : WE) : WE := fun ρ cs P Z => wa ρ cs (fun x cs1 => match x with
  | .bl k => P (.bl (!k)) cs1
  | _ => False) Z
theorem d_one {op} (h : DE X W a wa) : DE X W (.BoolOp op [a] pos) wa := pe_one h
theorem d_and (ha : DE X W a wa) (hb : DE X W (.BoolOp .And (b :: rest) pos) wb) : DE X W (.BoolOp .And (a :: b :: rest) pos) (wAndV wa wb) :=
  PE.imp (pe_and ha hb) fun σ H Q h => by
    obtain ⟨F, cs, ρ, P, Z, s, re, hw, pe, px⟩ := h
    refine ⟨F, cs, ρ, _, Z, s, re, hw, fun H1 cs1 v d s1 r1 h1 => ?_, px⟩
    cases d <;> try exact h1.elim
    rename_i k
    cases r1
    cases k with
    | true => exact ⟨true, rfl, iteT ⟨F, cs1, ρ, P, Z, s1.self, re.mono s1.gr, h1.1 rfl, pe.le s1.gr, px.le s1.gr⟩⟩
    | false => exact ⟨false, rfl, iteF (pe H1 cs1 _ _ s1 (.bl _) (h1.2 rfl))⟩
theorem d_not (ha : DE X W a wa) : DE X W (.UnaryOp .Not a pos) (wNotV wa) :=
  PE.imp (pe_not ha) fun σ H Q h => by
    obtain ⟨F, cs, ρ, P, Z, s, re, hw, pe, px⟩ := h
    refine ⟨F, cs, ρ, _, Z, s, re, hw, fun H1 cs1 v d s1 r1 h1 => ?_, px⟩
    cases d <;> try exact h1.elim
    rename_i k
    cases r1
    exact ⟨k, rfl, pe H1 cs1 _ _ s1 (.bl _) h1⟩
def wIf (t : WT) (wa wb : WE) : WE := fun ρ cs P Z => t ρ cs (fun k cs1 => (k = true → wa ρ cs1 P Z) ∧ (k = false → wb ρ cs1 P Z)) Z
theorem d_if (hc : DT X W c ta) (ha : DE X W a wa) (hb : DE X W b wb) : DE X W (.IfExp c a b pos) (wIf ta wa wb) :=
  PE.imp (pe_ifExp hc ha hb) fun σ H Q h => by
    obtain ⟨F, cs, ρ, P, Z, s, re, hw, pe, px⟩ := h
    refine ⟨F, cs, ρ, _, Z, s, re, hw, fun H1 cs1 k s1 h1 => ?_, px⟩
    cases k with
    | true => exact iteT ⟨F, cs1, ρ, P, Z, s1.self, re.mono s1.gr, h1.1 rfl, pe.le s1.gr, px.le s1.gr⟩
    | false => exact iteF ⟨F, cs1, ρ, P, Z, s1.self, re.mono s1.gr, h1.2 rfl, pe.le s1.gr, px.le s1.gr⟩
variable {e : Expr} {es : List Expr} {we : WE} {w : WA}
def wNil : WA := fun _ cs P _ => P [] cs
def wCons (we : WE) (w : WA) : WA := fun ρ cs P Z => we ρ cs (fun x cs1 => w ρ cs1 (fun xs cs2 => P (x :: xs) cs2) Z) Z
theorem da_nil : DA X W [] wNil := PA.imp pa_nil fun σ H Q ⟨F, cs, ρ, P, Z, s, re, hw, pe, px⟩ => pe H cs [] [] s .nil rfl hw
theorem da_cons (ha : DE X W e we) (hr : DA X W es w) (hs : starEach (e :: es) X.env = (false, eval e X.env) :: starEach es X.env := by rfl) : DA X W (e :: es) (wCons we w) :=
  PA.imp (pa_cons ha hr hs) fun σ H Q h => by
    obtain ⟨F, cs, ρ, P, Z, s, re, hw, pe, px⟩ := h
    refine ⟨F, cs, ρ, _, Z, s, re, hw, fun H1 cs1 v d s1 r1 h1 => ?_, px⟩
    refine ⟨F, cs1, ρ, _, Z, s1.self, re.mono s1.gr, h1, fun H2 cs2 vs ds s2 r2 l2 h2 => ?_, px.le s1.gr⟩
    exact pe H2 cs2 _ _ (s2.from_ s1.gr) (.cons (r1.mono s2.gr) r2) (congrArg Nat.succ l2) h2
def wTup (w : WA) : WE := fun ρ cs P Z => w ρ cs (fun ds cs1 => P (.tup ds) cs1) Z
def wLst (w : WA) : WE := fun ρ cs P Z => w ρ cs (fun ds cs1 => P (.lst ds) cs1) Z
/-- a new list that will change -/
def wLstM (w : WA) : WE := fun ρ cs P Z => w ρ cs (fun ds cs1 => ∀ p, p ∉ adr cs1 → P (.opq (.ref p)) ((p, .lst ds) :: cs1)) Z
theorem small_es {n : Nat} (h : n ≤ 1000) : n ≤ sizeLine := Nat.le_trans h (by decide)
theorem d_tup {x1} (h : DA X W es w) (hn : es.length ≤ 1000 := by decide) : DE X W (.Tuple es x1 pos) (wTup w) :=
  PE.imp (pe_tup h) fun σ H Q h => by
    obtain ⟨F, cs, ρ, P, Z, s, re, hw, pe, px⟩ := h
    refine ⟨F, cs, ρ, _, Z, s, re, hw, fun H1 cs1 vs ds s1 r1 l1 h1 => ⟨by rw [r1.length, l1]; exact small_es hn, fun p hp => ?_⟩, px⟩
    obtain ⟨s2, e2⟩ := s1.new (o := .tup vs) hp
    exact pe _ cs1 _ _ (s2.from_ s1.gr) (.tup (SqT.of e2) (r1.mono s2.gr)) h1
theorem d_lst (h : DA X W es w) (hn : es.length ≤ 1000 := by decide) : DE X W (.List es pos) (wLst w) :=
  PE.imp (pe_lst h) fun σ H Q h => by
    obtain ⟨F, cs, ρ, P, Z, s, re, hw, pe, px⟩ := h
    refine ⟨F, cs, ρ, _, Z, s, re, hw, fun H1 cs1 vs ds s1 r1 l1 h1 => ⟨by rw [r1.length, l1]; exact small_es hn, fun p hp => ?_⟩, px⟩
    obtain ⟨s2, e2⟩ := s1.new (o := .lst vs) hp
    exact pe _ cs1 _ _ (s2.from_ s1.gr) (.lst (SqL.of e2) (r1.mono s2.gr)) h1
theorem d_lstM (h : DA X W es w) (hn : es.length ≤ 1000 := by decide) : DE X W (.List es pos) (wLstM w) :=
  PE.imp (pe_lst h) fun σ H Q h => by
    obtain ⟨F, cs, ρ, P, Z, s, re, hw, pe, px⟩ := h
    refine ⟨F, cs, ρ, _, Z, s, re, hw, fun H1 cs1 vs ds s1 r1 l1 h1 => ⟨by rw [r1.length, l1]; exact small_es hn, fun p hp => ?_⟩, px⟩
    have s2 := s1.newM (m := .lst ds) (o := .lst vs) hp r1
    exact pe _ _ _ _ (s2.from_ s1.gr) (.opq _) (h1 p (s1.notin hp).2)
abbrev DOn := List D → Cs → DP → Prop
def AdqN (K : PySem.W.Frag) (r : List V → Hp → VK → Prop) (o : DOn) : Prop := ∀ F cs H xs ds P Q, Sta K F (pur F cs H) cs H → RepL K (pur F cs H) xs ds → o ds cs P → PostE K F (pur F cs H) P Q → r xs H Q
def wCB (o : DOn) (w : WA) : WE := fun ρ cs P Z => w ρ cs (fun ds cs1 => o ds cs1 P) Z
theorem cb_ok {r : List V → Hp → VK → Prop} {o : DOn} {n : Nat} (adq : AdqN K r o) {Q : VK} : lE K W (wCB o w) σ H Q → tCB r (lA K W n w) σ H Q := by
  rintro ⟨F, cs, ρ, P, Z, s, re, hw, pe, px⟩
  exact ⟨F, cs, ρ, _, Z, s, re, hw, fun H1 cs1 vs ds s1 r1 l1 h1 => adq F cs1 H1 vs ds P Q s1.self r1 h1 (pe.le s1.gr), px⟩
variable {x : Str} {p : Pos} {id T : String} {r : List V → Hp → VK → Prop} {o : DOn}
theorem d_callB (hc : CallR X (.builtin id) r) (adq : AdqN X.K r o) (hg : Gl X x) (hm : X.mg x = none) (hv : bootBuiltins x = some (.builtin id)) (ha : DA X W (e :: es) w) (hn : x ≠ "__name__" := by decide) (hdb : (x == ("__debug__" : Str)) = false := by decide)
    (he : starEach (e :: es) X.env = (false, eval e X.env) :: starEach es X.env := by rfl) (hpl : (backTo pos (starEach es X.env)).any (·.1) = false := by rfl) : DE X W (.Call (.Name x p) (e :: es) [] pos) (wCB o w) :=
  PE.imp (pe_callB hc hg hm hv ha hn hdb he hpl) fun _ _ _ h => cb_ok adq h
theorem d_callTy (hc : CallR X (.type T) r) (adq : AdqN X.K r o) (hg : Gl X x) (hm : X.mg x = none) (hv : bootBuiltins x = some (.type T)) (ha : DA X W (e :: es) w) (hn : x ≠ "__name__" := by decide) (hdb : (x == ("__debug__" : Str)) = false := by decide)
    (he : starEach (e :: es) X.env = (false, eval e X.env) :: starEach es X.env := by rfl) (hpl : (backTo pos (starEach es X.env)).any (·.1) = false := by rfl) : DE X W (.Call (.Name x p) (e :: es) [] pos) (wCB o w) :=
  PE.imp (pe_callTy hc hg hm hv ha hn hdb he hpl) fun _ _ _ h => cb_ok adq h
def oAbs : DOn := fun ds cs P => match ds with
  | [.int i] => P (.int (if i < 0 then -i else i)) cs
  | _ => False
def oLen : DOn := fun ds cs P => match ds with
  | [.lst xs] => P (.int xs.length) cs
  | [.tup xs] => P (.int xs.length) cs
  | _ => False
def oList : DOn := fun ds cs P => match ds with
  | [.lst xs] => P (.lst xs) cs
  | [.tup xs] => P (.lst xs) cs
  | _ => False
theorem adq_abs : AdqN K (fun xs H Q => ∃ i, xs = [.int i] ∧ Q (.int (if i < 0 then -i else i)) H) oAbs := fun F cs H xs ds P Q s r ho pe => by
  unfold oAbs at ho
  split at ho
  · cases r with
    | cons h t => cases h; cases t; exact ⟨_, rfl, pe H cs _ _ s (.int _) ho⟩
  · exact ho.elim
theorem adq_len : AdqN K (fun xs H Q => ∃ p ys, xs = [.ref p] ∧ (SqL K H p ys ∨ SqT K H p ys) ∧ Q (.int ys.length) H) oLen := fun F cs H xs ds P Q s r ho pe => by
  unfold oLen at ho
  split at ho
  · cases r with
    | cons h t =>
      cases t
      cases h with
      | lst h r => exact ⟨_, _, rfl, .inl (ex_l pur_le h), by rw [r.length]; exact pe H cs _ _ s (.int _) ho⟩
  · cases r with
    | cons h t =>
      cases t
      cases h with
      | tup h r => exact ⟨_, _, rfl, .inr (ex_t pur_le h), by rw [r.length]; exact pe H cs _ _ s (.int _) ho⟩
  · exact ho.elim
theorem adq_list : AdqN K (fun xs H Q => ∃ p ys, xs = [.ref p] ∧ (SqL K H p ys ∨ SqT K H p ys) ∧ ∀ l, H l = none → Q (.ref l) (upd H l (.lst ys))) oList := fun F cs H xs ds P Q s r ho pe => by
  have fin : ∀ {ys : List V} {es : List D} {l : Addr}, RepL K (pur F cs H) ys es → H l = none → P (.lst es) cs → Q (.ref l) (upd H l (.lst ys)) := fun {ys es l} hr hl hp => by
    obtain ⟨s2, e2⟩ := s.new (o := .lst ys) hl
    exact pe _ cs _ _ s2 (.lst (SqL.of e2) (hr.mono s2.gr)) hp
  unfold oList at ho
  split at ho
  · cases r with
    | cons h t =>
      cases t
      cases h with
      | lst h r => exact ⟨_, _, rfl, .inl (ex_l pur_le h), fun l hl => fin r hl ho⟩
  · cases r with
    | cons h t =>
      cases t
      cases h with
      | tup h r => exact ⟨_, _, rfl, .inr (ex_t pur_le h), fun l hl => fin r hl ho⟩
  · exact ho.elim
abbrev WO := Env → Cs → (Option Int → Cs → Prop) → XZ → Prop
def lO (K : PySem.W.Frag) (W : WX) (w : WO) : TO := fun σ H Q => ∃ F cs ρ P Z, Sta K F (pur F cs H) cs H ∧ RepE K (pur F cs H) σ ρ ∧ w ρ cs P Z ∧ (∀ H' cs' b, Sta K F (pur F cs H) cs' H' → P b cs' → Q b H') ∧ PostX K F (pur F cs H) Z fun c d H' => W c d σ H'
abbrev DOp (X : Cx) (W : WX) (e : Option Expr) (w : WO) : Prop := PO X e (lO X.K W w)
theorem PO.imp {X : Cx} {e : Option Expr} {t t' : TO} (h : PO X e t) (i : ∀ σ H Q, t' σ H Q → t σ H Q) : PO X e t' := ⟨fun pins s σ H Q I q => h.run pins s σ H Q I (i σ H Q q)⟩
def wNoPart : WO := fun _ cs P _ => P none cs
def wPart (we : WE) : WO := fun ρ cs P Z => we ρ cs (fun x cs1 => match x with
  | .int i => P (some i) cs1
  | _ => False) Z
theorem do_none : DOp X W none wNoPart := PO.imp po_none fun σ H Q ⟨F, cs, ρ, P, Z, s, re, hw, pe, px⟩ => pe H cs none s hw
theorem do_some (h : DE X W e we) : DOp X W (some e) (wPart we) := PO.imp (po_some h) fun σ H Q h => by
  obtain ⟨F, cs, ρ, P, Z, s, re, hw, pe, px⟩ := h
  refine ⟨F, cs, ρ, _, Z, s, re, hw, fun H1 cs1 v d s1 r1 h1 => ?_, px⟩
  cases d <;> try exact h1.elim
  cases r1
  exact ⟨_, rfl, pe H1 cs1 _ s1 h1⟩
def cutD (xs : List D) (lo hi : Option Int) : List D := (xs.drop (HT.sIx xs.length 0 lo)).take (HT.sIx xs.length xs.length hi - HT.sIx xs.length 0 lo)
theorem RepL.cut {G : Hp} {vs : List V} {ds : List D} (r : RepL K G vs ds) (lo hi : Option Int) : RepL K G (cutV vs lo hi) (cutD ds lo hi) := by
  unfold cutV cutD
  rw [r.length]
  exact (r.drop _).take _
def oSlL : D → Option Int → Option Int → Cs → DP → Prop := fun x lo hi cs P => match x with
  | .lst xs => P (.lst (cutD xs lo hi)) cs
  | _ => False
def wSl (o : D → Option Int → Option Int → Cs → DP → Prop) (we : WE) (wl wh : WO) : WE := fun ρ cs P Z => we ρ cs (fun x cs1 => wl ρ cs1 (fun l cs2 => wh ρ cs2 (fun u cs3 => o x l u cs3 P) Z) Z) Z
def AdqS (K : PySem.W.Frag) (r : V → Option Int → Option Int → Hp → VK → Prop) (o : D → Option Int → Option Int → Cs → DP → Prop) : Prop := ∀ F cs H x dx lo hi P Q, Sta K F (pur F cs H) cs H → Rep K (pur F cs H) x dx → o dx lo hi cs P → PostE K F (pur F cs H) P Q → r x lo hi H Q
theorem d_slice {r : V → Option Int → Option Int → Hp → VK → Prop} {o : D → Option Int → Option Int → Cs → DP → Prop} {lo hi : Option Expr} {wl wh : WO} {p2 : Pos} (hr : SlR X r) (adq : AdqS X.K r o) (he : DE X W e we) (hl : DOp X W lo wl) (hu : DOp X W hi wh) :
    DE X W (.Subscript e (.Slice lo hi none p2) pos) (wSl o we wl wh) :=
  PE.imp (pe_slice hr he hl hu) fun σ H Q h => by
    obtain ⟨F, cs, ρ, P, Z, s, re, hw, pe, px⟩ := h
    refine ⟨F, cs, ρ, _, Z, s, re, hw, fun H1 cs1 v d s1 r1 h1 => ?_, px⟩
    refine ⟨F, cs1, ρ, _, Z, s1.self, re.mono s1.gr, h1, fun H2 cs2 l s2 h2 => ?_, px.le s1.gr⟩
    refine ⟨F, cs2, ρ, _, Z, s2.self, re.mono (s1.gr.trans s2.gr), h2, fun H3 cs3 u s3 h3 => ?_, px.le (s1.gr.trans s2.gr)⟩
    exact adq F cs3 H3 v d l u P Q s3.self (r1.mono (s2.gr.trans s3.gr)) h3 (pe.le ((s1.gr.trans s2.gr).trans s3.gr))
theorem adq_slL : AdqS K (rSlL K) oSlL := fun F cs H x dx lo hi P Q s rx ho pe => by
  unfold oSlL at ho
  split at ho
  · cases rx with
    | lst h r =>
      refine ⟨_, _, rfl, ex_l pur_le h, fun p hp => ?_⟩
      obtain ⟨s2, e2⟩ := s.new (o := .lst (cutV _ lo hi)) hp
      exact pe _ cs _ _ s2 (.lst (SqL.of e2) ((r.cut lo hi).mono s2.gr)) ho
  · exact ho.elim
end
end DL
namespace DL
open PySem L2
section
variable {X : Cx} {W : WX} {K : PySem.W.Frag} {σ : St} {H : Hp} {e c : Expr} {we : WE} {wt : WT} {pos : Pos} {st : Stmt} {rest A B : List Stmt} {u v : WS}
def sNext : WS := fun f ρ cs => f.nx ρ cs
def sSeq (u v : WS) : WS := fun f ρ cs => u { f with nx := fun ρ' cs' => v f ρ' cs' } ρ cs
theorem dss_nil : DSs X W [] sNext := PSs.imp pss_nil fun E σ H ⟨F, cs, ρ, f, s, re, hw, pe⟩ => pe.nx H cs σ ρ s re hw
theorem dss_cons (h1 : DS X W st u) (h2 : DSs X W rest v) : DSs X W (st :: rest) (sSeq u v) := PSs.imp (pss_cons h1 h2) fun E σ H h => by
  obtain ⟨F, cs, ρ, f, s, re, hw, pe⟩ := h
  exact ⟨F, cs, ρ, _, s, re, hw, ⟨fun H1 cs1 σ1 ρ1 s1 re1 h1 => ⟨F, cs1, ρ1, f, s1.self, re1, h1, pe.le s1.gr⟩, pe.bk, pe.ct, pe.rt, pe.ex⟩⟩
theorem dss_one (h1 : DS X W st u) : DSs X W [st] u := PSs.imp (pss_one h1) fun E σ H h => h
def sBreak : WS := fun f ρ cs => f.bk ρ cs
def sCont : WS := fun f ρ cs => f.ct ρ cs
theorem PostS.px {F G : Hp} {f : Fin} {E : Ends} {ρ : Env} (pe : PostS K F G W f E) (re : RepE K G σ ρ) : PostX K F G (fun x cs => f.ex x ρ cs) fun c d H' => W c d σ H' :=
  fun H' cs' x d s r h => pe.ex H' cs' σ ρ x d s (re.mono s.gr) r h
def sDrop (we : WE) : WS := fun f ρ cs => we ρ cs (fun _ cs1 => f.nx ρ cs1) (fun x cs1 => f.ex x ρ cs1)
def sRet (we : WE) : WS := fun f ρ cs => we ρ cs f.rt (fun x cs1 => f.ex x ρ cs1)
theorem ds_ret (he : DE X W e we) : DS X W (.Return (some e) pos) (sRet we) := PS.imp (ps_ret he) fun E σ H h => by
  obtain ⟨F, cs, ρ, f, s, re, hw, pe⟩ := h
  exact ⟨F, cs, ρ, _, _, s, re, hw, fun H1 cs1 v d s1 r1 h1 => pe.rt H1 cs1 v d s1 r1 h1, pe.px re⟩
def sRetN : WS := fun f _ cs => f.rt .non cs
def sIf (wt : WT) (u v : WS) : WS := fun f ρ cs => wt ρ cs (fun k cs1 => (k = true → u f ρ cs1) ∧ (k = false → v f ρ cs1)) (fun x cs1 => f.ex x ρ cs1)
theorem ds_if (hc : DT X W c wt) (ha : DSs X W A u) (hb : DSs X W B v) : DS X W (.If c A B pos) (sIf wt u v) := PS.imp (ps_if hc ha hb) fun E σ H h => by
  obtain ⟨F, cs, ρ, f, s, re, hw, pe⟩ := h
  refine ⟨F, cs, ρ, _, _, s, re, hw, fun H1 cs1 k s1 h1 => ?_, pe.px re⟩
  cases k with
  | true => exact iteT ⟨F, cs1, ρ, f, s1.self, re.mono s1.gr, h1.1 rfl, pe.le s1.gr⟩
  | false => exact iteF ⟨F, cs1, ρ, f, s1.self, re.mono s1.gr, h1.2 rfl, pe.le s1.gr⟩
def sNever : WS := fun _ _ _ => False
theorem dss_never {sts : List Stmt} : DSs X W sts sNever := PSs.imp pss_never fun E σ H ⟨F, cs, ρ, f, s, re, hw, pe⟩ => hw
abbrev WG := D → Env → (Env → Prop) → Prop
abbrev WGs := List D → Env → (Env → Prop) → Prop
def lG (K : PySem.W.Frag) (g : WG) : TG := fun v σ H Q => ∃ F cs ρ d k, Sta K F (pur F cs H) cs H ∧ RepE K (pur F cs H) σ ρ ∧ Rep K (pur F cs H) v d ∧ g d ρ k ∧ ∀ σ' ρ' H', Sta K F (pur F cs H) cs H' → RepE K (pur F cs H') σ' ρ' → k ρ' → Q σ' H'
def lGs (K : PySem.W.Frag) (g : WGs) : TGs := fun v σ H Q => ∃ F cs ρ d k, Sta K F (pur F cs H) cs H ∧ RepE K (pur F cs H) σ ρ ∧ RepL K (pur F cs H) v d ∧ g d ρ k ∧ ∀ σ' ρ' H', Sta K F (pur F cs H) cs H' → RepE K (pur F cs H') σ' ρ' → k ρ' → Q σ' H'
abbrev DG (X : Cx) (tg : Expr) (g : WG) : Prop := PG X tg (lG X.K g)
abbrev DGs (X : Cx) (tg : List Expr) (g : WGs) : Prop := PGs X tg (lGs X.K g)
theorem PG.imp {X : Cx} {e : Expr} {t t' : TG} (h : PG X e t) (i : ∀ v σ H Q, t' v σ H Q → t v σ H Q) : PG X e t' := ⟨fun pins s σ H v u Q I r q => h.run pins s σ H v u Q I r (i v σ H Q q)⟩
theorem PGs.imp {X : Cx} {e : List Expr} {t t' : TGs} (h : PGs X e t) (i : ∀ v σ H Q, t' v σ H Q → t v σ H Q) : PGs X e t' := ⟨fun pins s σ H v u Q I r q => h.run pins s σ H v u Q I r (i v σ H Q q)⟩
def gN (i : Nat) : WG := fun d ρ k => k (ρ.set i (some d))
theorem dg_name {i : Nat} {x : Str} (hN : X.N.Nodup) (hi : X.N[i]? = some x) (hx : Loc X.env.scope x) (hf : X.fn x = true ∨ X.env.scope.names.lookup x = some .local := by first | exact .inl rfl | exact .inr rfl | assumption) : DG X (.Name x pos) (gN i) :=
  PG.imp (pg_name hN hi hx hf) fun v σ H Q ⟨F, cs, ρ, d, k, s, re, r, hw, q⟩ => q _ _ H s (re.set r i) hw
def gNl : WGs := fun ds ρ k => match ds with
  | [] => k ρ
  | _ => False
def gCn (g : WG) (gs : WGs) : WGs := fun ds ρ k => match ds with
  | d :: r => g d ρ fun ρ' => gs r ρ' k
  | [] => False
theorem dgs_nil : DGs X [] gNl := PGs.imp pgs_nil fun v σ H Q h => by
  obtain ⟨F, cs, ρ, d, k, s, re, r, hw, q⟩ := h
  cases r with
  | nil => exact ⟨rfl, q σ ρ H s re hw⟩
  | cons _ _ => exact hw.elim
theorem dgs_cons {es : List Expr} {g : WG} {gs : WGs} (h1 : DG X e g) (h2 : DGs X es gs) (hs : (assignEach (e :: es) X.env).map (·.2) = assign e X.env :: (assignEach es X.env).map (·.2) := by rfl) : DGs X (e :: es) (gCn g gs) := PGs.imp (pgs_cons h1 h2 hs) fun v σ H Q h => by
  obtain ⟨F, cs, ρ, d, k, s, re, r, hw, q⟩ := h
  cases r with
  | nil => exact hw.elim
  | cons r1 r2 => exact ⟨_, _, rfl, F, cs, ρ, _, _, s, re, r1, hw, fun σ1 ρ1 H1 s1 re1 h1 => ⟨F, cs, ρ1, _, k, s1.self, re1, r2.mono s1.gr, h1, fun σ2 ρ2 H2 s2 re2 h2 => q σ2 ρ2 H2 (s2.from_ s1.gr) re2 h2⟩⟩
/-- (a, b, ..) = a tuple of that length -/
def gT (n : Nat) (gs : WGs) : WG := fun d ρ k => match d with
  | .tup ds => ds.length = n ∧ gs ds ρ k
  | _ => False
theorem dg_tup {es : List Expr} {kk : Nat} {gs : WGs} {n : Nat} (hc : X.calm = true) (h : DGs X es gs) (hn : (assignEach es X.env).length = n := by rfl) (hst : (assignEach es X.env).findIdx? (·.1) = none := by rfl) : DG X (.Tuple es kk pos) (gT n gs) :=
  PG.imp (pg_tup hc h hn hst) fun v σ H Q hq => by
    obtain ⟨F, cs, ρ, d, k, s, re, r, hw, q⟩ := hq
    cases d <;> try exact hw.elim
    cases r with
    | tup h r => exact ⟨_, _, rfl, ex_t pur_le h, by rw [r.length]; exact hw.1, F, cs, ρ, _, k, s, re, r, hw.2, q⟩
def sAsg (we : WE) (g : WG) : WS := fun f ρ cs => we ρ cs (fun d cs1 => g d ρ fun ρ' => f.nx ρ' cs1) (fun x cs1 => f.ex x ρ cs1)
theorem asg_ok {g : WG} {E : Ends} : lS K W (sAsg we g) E σ H → tAsg (lE K W we) (lG K g) E σ H := by
  rintro ⟨F, cs, ρ, f, s, re, hw, pe⟩
  exact ⟨F, cs, ρ, _, _, s, re, hw, fun H1 cs1 v d s1 r1 h1 => ⟨F, cs1, ρ, d, _, s1.self, re.mono s1.gr, r1, h1, fun σ2 ρ2 H2 s2 re2 h2 => pe.nx H2 cs1 σ2 ρ2 (s2.from_ s1.gr) re2 h2⟩, pe.px re⟩
theorem asgN_ok {i : Nat} {E : Ends} : lS K W (sAsg we (gN i)) E σ H → tAsg (lE K W we) (gName i) E σ H := by
  rintro ⟨F, cs, ρ, f, s, re, hw, pe⟩
  exact ⟨F, cs, ρ, _, _, s, re, hw, fun H1 cs1 v d s1 r1 h1 => pe.nx H1 cs1 _ _ s1 ((re.mono s1.gr).set r1 i) h1, pe.px re⟩
theorem ds_set {i : Nat} {x : Str} {pos' : Pos} (hN : X.N.Nodup) (hi : X.N[i]? = some x) (hx : Loc X.env.scope x) (he : DE X W e we) (hs : swapsWith e (some (.Name x pos')) pos.line X.env = pure false := by rfl)
    (hf : X.fn x = true ∨ X.env.scope.names.lookup x = some .local := by first | exact .inl rfl | exact .inr rfl | assumption) : DS X W (.Assign [.Name x pos'] e pos) (sAsg we (gN i)) :=
  PS.imp (ps_set (i := i) hN hi hx he hs hf) fun _ _ _ h => asgN_ok h
theorem ds_asg {tg : Expr} {g : WG} (he : DE X W e we) (hg : DG X tg g) (hs : swapsWithSole [tg] e pos.line X.env = pure false := by rfl) (hw : swappedStores [tg] e X.env = pure none := by rfl)
    (h1 : (assignEach [tg] X.env).map (·.2) = [assign tg X.env] := by rfl) : DS X W (.Assign [tg] e pos) (sAsg we g) := PS.imp (ps_asg he hg hs hw h1) fun _ _ _ h => asg_ok h
def sPar (i j : Nat) (w : WA) : WS := fun f ρ cs => w ρ cs (fun ds cs1 => match ds with
  | [x, y] => f.nx ((ρ.set i (some x)).set j (some y)) cs1
  | _ => False) (fun x cs1 => f.ex x ρ cs1)
theorem par_inv {ds : List D} {g : D → D → Prop} (h : (match ds with | [x, y] => g x y | _ => False)) : ∃ x y, ds = [x, y] ∧ g x y := by
  match ds, h with
  | [x, y], h => exact ⟨x, y, rfl, h⟩
theorem ds_par {i j : Nat} {x y : Str} {a b : Expr} {w : WA} {px py pt : Pos} {kt k2 pt2} (hc : X.calm = true) (hN : X.N.Nodup) (hi : X.N[i]? = some x) (hj : X.N[j]? = some y) (hij : i ≠ j)
    (hx : X.env.scope.names.lookup x = some .local) (hy : X.env.scope.names.lookup y = some .local) (ha : DA X W [a, b] w)
    (hw : swappedStores [.Tuple [.Name x px, .Name y py] kt pt] (.Tuple [a, b] k2 pt2) X.env = pure (some [x, y]) := by rfl)
    (hs : swapsWithSole [.Tuple [.Name x px, .Name y py] kt pt] (.Tuple [a, b] k2 pt2) pos.line X.env = pure false := by rfl) :
    DS X W (.Assign [.Tuple [.Name x px, .Name y py] kt pt] (.Tuple [a, b] k2 pt2) pos) (sPar i j w) := PS.imp (ps_par hc hN hi hj hij hx hy ha hw hs) fun E σ H h => by
  obtain ⟨F, cs, ρ, f, s, re, hw, pe⟩ := h
  refine ⟨F, cs, ρ, _, _, s, re, hw, fun H1 cs1 vs ds s1 r1 l1 h1 => ?_, pe.px re⟩
  obtain ⟨dx, dy, rfl, h⟩ := par_inv h1
  cases r1 with
  | cons r1 r2 =>
    cases r2 with
    | cons r2 r3 =>
      cases r3
      exact ⟨_, _, rfl, pe.nx H1 cs1 _ _ s1 (((re.mono s1.gr).set r1 i).set r2 j) h⟩
/-- name op= e of ints -/
def sAug (i : Nat) (o : DO2) (we : WE) : WS := fun f ρ cs => match ρ[i]? with
  | some (some x) => we ρ cs (fun y cs1 => o x y cs1 fun z cs2 => f.nx (ρ.set i (some z)) cs2) (fun x cs1 => f.ex x ρ cs1)
  | _ => False
/-- I: by a number that falls -/
def sWhile (wt : WT) (wb : WS) : WS := fun f ρ cs => ∃ I : Nat → Env → Cs → Prop, (∃ m, I m ρ cs) ∧ ∀ m ρ cs, I m ρ cs →
  wt ρ cs (fun k cs1 => (k = true → wb { f with nx := fun ρ' cs' => ∃ m', m' < m ∧ I m' ρ' cs', ct := fun ρ' cs' => ∃ m', m' < m ∧ I m' ρ' cs', bk := f.nx } ρ cs1) ∧ (k = false → f.nx ρ cs1)) (fun x cs1 => f.ex x ρ cs1)
theorem ds_while {body : List Stmt} {wb : WS} (hp : PassesOwn (model X.prog X.w) X.A X.env X.xe) (hc : DT X W c wt) (hb : DSs X W body wb) : DS X W (.While c body [] pos) (sWhile wt wb) := PS.imp (ps_while hp hc hb) fun E σ H h => by
  obtain ⟨F, cs, ρ, f, s, re, ⟨I, ⟨m0, i0⟩, turn⟩, pe⟩ := h
  refine ⟨fun m σ' H' => ∃ cs' ρ', Sta X.K F (pur F cs H) cs' H' ∧ RepE X.K (pur F cs' H') σ' ρ' ∧ I m ρ' cs', ⟨m0, cs, ρ, s, re, i0⟩, fun m σ1 H1 ⟨cs1, ρ1, s1, re1, i1⟩ => ?_⟩
  refine ⟨F, cs1, ρ1, _, _, s1.self, re1, turn m ρ1 cs1 i1, fun H2 cs2 k s2 h2 => ?_, (pe.le s1.gr).px re1⟩
  cases k with
  | true =>
    refine iteT ⟨fun σ' H' => ∃ m', m' < m ∧ ∃ cs' ρ', Sta X.K F (pur F cs H) cs' H' ∧ RepE X.K (pur F cs' H') σ' ρ' ∧ I m' ρ' cs', fun σ' H' ⟨m', hm, z⟩ => ⟨m', hm, z⟩, ?_⟩
    have pe2 := pe.le (s1.gr.trans s2.gr)
    exact ⟨F, cs2, ρ1, _, s2.self, re1.mono s2.gr, h2.1 rfl, ⟨fun H3 cs3 σ3 ρ3 s3 re3 ⟨m', hm, z⟩ => ⟨m', hm, cs3, ρ3, s3.from_ (s1.gr.trans s2.gr), re3, z⟩, fun H3 cs3 σ3 ρ3 s3 re3 z => pe2.nx H3 cs3 σ3 ρ3 s3 re3 z,
      fun H3 cs3 σ3 ρ3 s3 re3 ⟨m', hm, z⟩ => ⟨m', hm, cs3, ρ3, s3.from_ (s1.gr.trans s2.gr), re3, z⟩, pe2.rt, pe2.ex⟩⟩
  | false => exact iteF (pe.nx H2 cs2 σ1 ρ1 (s2.from_ s1.gr) (re1.mono s2.gr) (h2.2 rfl))
/-- J yields xs as long as the data stand -/
structure YI (K : PySem.W.Frag) (J : It) (G : Hp) (xs : List D) : Prop where
  go : ∀ i d, xs[i]? = some d → ∀ F cs H, Sta K F G cs H → J.go i H
  yld : ∀ i d, xs[i]? = some d → ∀ F cs H x H', Sta K F G cs H → J.yld i H x H' → Sta K F (pur F cs H) cs H' ∧ Rep K (pur F cs H') x d
  stop : ∀ F cs H, Sta K F G cs H → J.stop xs.length H
abbrev WI := Env → Cs → (List D → Cs → Prop) → XZ → Prop
def lI (K : PySem.W.Frag) (W : WX) (w : WI) : TI := fun σ H R => ∃ F cs ρ P Z, Sta K F (pur F cs H) cs H ∧ RepE K (pur F cs H) σ ρ ∧ w ρ cs P Z ∧ (∀ H' cs' J xs, Sta K F (pur F cs H) cs' H' → YI K J (pur F cs' H') xs → P xs cs' → R J H') ∧ PostX K F (pur F cs H) Z fun c d H' => W c d σ H'
abbrev DI (X : Cx) (W : WX) (tg it : Expr) (w : WI) : Prop := PI X tg it (lI X.K W w)
theorem PI.imp {X : Cx} {tg e : Expr} {t t' : TI} (h : PI X tg e t) (i : ∀ σ H Q, t' σ H Q → t σ H Q) : PI X tg e t' := ⟨fun pins s σ H Q I q => h.run pins s σ H Q I (i σ H Q q)⟩
def loopW (g : WG) (wb : WS) (f : Fin) : List D → Env → Cs → Prop
  | [], ρ, cs => f.nx ρ cs
  | d :: r, ρ, cs => g d ρ fun ρ1 => wb { f with nx := fun ρ' cs' => loopW g wb f r ρ' cs', ct := fun ρ' cs' => loopW g wb f r ρ' cs', bk := f.nx } ρ1 cs
def sFor (wi : WI) (g : WG) (wb : WS) : WS := fun f ρ cs => wi ρ cs (fun xs cs1 => loopW g wb f xs ρ cs1) (fun x cs1 => f.ex x ρ cs1)
theorem drop_cons {α : Type} {xs : List α} {i : Nat} {d : α} {r : List α} (h : xs.drop i = d :: r) : xs[i]? = some d ∧ xs.drop (i + 1) = r := by
  refine ⟨?_, ?_⟩
  · have e : (xs.drop i)[0]? = some d := by rw [h] <;> rfl
    rw [List.getElem?_drop] at e
    simpa using e
  · have e : (xs.drop i).drop 1 = r := by rw [h] <;> rfl
    rw [List.drop_drop] at e
    exact e
theorem ds_for {tg iter : Expr} {body : List Stmt} {wi : WI} {g : WG} {wb : WS} (hp : PassesOwn (model X.prog X.w) X.A X.env X.xe) (hc : X.calm = true) (hi : DI X W tg iter wi) (hg : DG X tg g) (hb : DSs X W body wb)
    (hs : ∀ x, foldedSetIterable iter X.env x = pure x := by intro _; rfl) : DS X W (.For tg iter body [] pos) (sFor wi g wb) := PS.imp (ps_for hp hc hi hg hb hs) fun E σ H h => by
  obtain ⟨F, cs, ρ, f, s, re, hw, pe⟩ := h
  refine ⟨F, cs, ρ, _, _, s, re, hw, fun H1 cs1 J xs s1 yi h1 => ?_, pe.px re⟩
  refine ⟨fun i m σ' H' => i ≤ xs.length ∧ m = xs.length - i ∧ ∃ cs' ρ', Sta X.K F (pur F cs1 H1) cs' H' ∧ RepE X.K (pur F cs' H') σ' ρ' ∧ loopW g wb f (xs.drop i) ρ' cs', ⟨xs.length, Nat.zero_le _, rfl, cs1, ρ, s1.self, re.mono s1.gr, h1⟩, ?_⟩
  rintro i m σ2 H2 ⟨hi, rfl, cs2, ρ2, s2, re2, h2⟩
  cases e : xs.drop i with
  | nil =>
    have hl : xs.length ≤ i := by
      have z := congrArg List.length e
      rw [List.length_drop] at z
      have z' : xs.length - i = 0 := z
      omega
    have hie : i = xs.length := by omega
    rw [e] at h2
    refine .inl ⟨?_, pe.nx H2 cs2 σ2 ρ2 (s2.from_ s1.gr) re2 h2⟩
    rw [hie]
    exact yi.stop F cs2 H2 s2
  | cons d r =>
    obtain ⟨e1, e2⟩ := drop_cons e
    have hlt : i < xs.length := (List.getElem?_eq_some_iff.mp e1).1
    rw [e] at h2
    refine .inr ⟨yi.go i d e1 F cs2 H2 s2, fun σ' H' => ∃ cs' ρ', Sta X.K F (pur F cs1 H1) cs' H' ∧ RepE X.K (pur F cs' H') σ' ρ' ∧ loopW g wb f r ρ' cs', ?_, ?_⟩
    · rintro σ' H' ⟨cs', ρ', s', re', h'⟩
      exact ⟨xs.length - (i + 1), by omega, by omega, rfl, cs', ρ', s', re', by rw [e2]; exact h'⟩
    · intro x H3 hy
      obtain ⟨s3, r3⟩ := yi.yld i d e1 F cs2 H2 x H3 s2 hy
      have g3 := s2.gr.trans s3.gr
      have pe3 := pe.le (s1.gr.trans g3)
      refine ⟨F, cs2, ρ2, d, _, s3.self, re2.mono s3.gr, r3, h2, fun σ4 ρ4 H4 s4 re4 h4 => ?_⟩
      have g4 := g3.trans s4.gr
      have pe4 := pe.le (s1.gr.trans g4)
      exact ⟨F, cs2, ρ4, _, s4.self, re4, h4, ⟨fun H5 cs5 σ5 ρ5 s5 re5 h5 => ⟨cs5, ρ5, s5.from_ g4, re5, h5⟩, fun H5 cs5 σ5 ρ5 s5 re5 h5 => pe4.nx H5 cs5 σ5 ρ5 s5 re5 h5,
        fun H5 cs5 σ5 ρ5 s5 re5 h5 => ⟨cs5, ρ5, s5.from_ g4, re5, h5⟩, pe4.rt, pe4.ex⟩⟩
def iSeq (we : WE) : WI := fun ρ cs P Z => we ρ cs (fun d cs1 => match d with
  | .lst xs => P xs cs1
  | _ => False) Z
def iTupD (we : WE) : WI := fun ρ cs P Z => we ρ cs (fun d cs1 => match d with
  | .tup xs => P xs cs1
  | _ => False) Z
theorem yi_list {G : Hp} {a : Addr} {xs : List V} {ds : List D} (h : SqL K G a xs) (r : RepL K G xs ds) : YI K (Itl K a) G ds where
  go := fun i d e F cs H s => by
    obtain ⟨v, e1, _⟩ := r.get e
    exact ⟨xs, v, ex_l (s.gr.trans pur_le) h, e1⟩
  yld := fun i d e F cs H x H' s hy => by
    obtain ⟨e1, e2⟩ := hy
    obtain ⟨v, e3, rv⟩ := r.get e
    have e4 := e2 xs (ex_l (s.gr.trans pur_le) h)
    rw [e3] at e4
    cases e4
    subst e1
    exact ⟨s.self, rv.mono s.gr⟩
  stop := fun F cs H s => ⟨xs, ex_l (s.gr.trans pur_le) h, by rw [r.length]; exact Nat.le_refl _⟩
theorem di_list {tg : Expr} (h : DE X W e we) : DI X W tg e (iSeq we) := PI.imp (pi_list h) fun σ H R hq => by
  obtain ⟨F, cs, ρ, P, Z, s, re, hw, pe, px⟩ := hq
  refine ⟨F, cs, ρ, _, Z, s, re, hw, fun H1 cs1 v d s1 r1 h1 => ?_, px⟩
  cases d <;> try exact h1.elim
  cases r1 with
  | lst h r => exact ⟨_, rfl, ⟨_, ex_l pur_le h⟩, pe H1 cs1 _ _ s1 (yi_list h r) h1⟩
def rngD (lo : Int) (n : Nat) : List D := (List.range n).map fun (i : Nat) => D.int (lo + (i : Int))
theorem yi_range (G : Hp) (lo : Int) (n : Nat) : YI K (Itr lo n) G (rngD lo n) where
  go := fun i d e F cs H s => by
    have z := (List.getElem?_eq_some_iff.mp e).1
    have z2 : i < n := by simpa [rngD] using z
    exact z2
  yld := fun i d e F cs H x H' s hy => by
    obtain ⟨e1, e2⟩ := hy
    subst e1 e2
    obtain ⟨hi, e3⟩ := List.getElem?_eq_some_iff.mp e
    simp [rngD] at e3
    rw [← e3]
    exact ⟨s.self, .int _⟩
  stop := fun F cs H s => by
    have z : n ≤ (rngD lo n).length := by simp [rngD]
    exact z
def iRg1 (w : WA) : WI := fun ρ cs P Z => w ρ cs (fun ds cs1 => match ds with
  | [.int j] => (-(2 ^ 62) ≤ j ∧ j < 2 ^ 62) ∧ P (rngD 0 j.toNat) cs1
  | _ => False) Z
def iRg2 (w : WA) : WI := fun ρ cs P Z => w ρ cs (fun ds cs1 => match ds with
  | [.int i, .int j] => (-(2 ^ 62) ≤ i ∧ i < 2 ^ 62 ∧ -(2 ^ 62) ≤ j ∧ j < 2 ^ 62) ∧ P (rngD i (j - i).toNat) cs1
  | _ => False) Z
theorem int1_inv {ds : List D} {g : Int → Prop} (h : (match ds with | [D.int j] => g j | _ => False)) : ∃ j, ds = [.int j] ∧ g j := by
  match ds, h with
  | [D.int j], h => exact ⟨j, rfl, h⟩
theorem di_range1 {tg a : Expr} {w : WA} {p : Pos} (hg : Gl X "range") (hm : X.mg "range" = none) (ha : DA X W [a] w) (hs : starEach [a] X.env = [(false, eval a X.env)] := by rfl) : DI X W tg (.Call (.Name "range" p) [a] [] pos) (iRg1 w) :=
  PI.imp (pi_range1 hg hm ha hs) fun σ H R hq => by
    obtain ⟨F, cs, ρ, P, Z, s, re, hw, pe, px⟩ := hq
    refine ⟨F, cs, ρ, _, Z, s, re, hw, fun H1 cs1 vs ds s1 r1 l1 h1 => ?_, px⟩
    obtain ⟨j, rfl, ⟨h2, h3⟩, h⟩ := int1_inv h1
    cases r1 with
    | cons r1 r2 => cases r1; cases r2; exact ⟨j, rfl, h2, h3, pe H1 cs1 _ _ s1 (yi_range _ 0 _) h⟩
end
end DL
namespace DL
open PySem PySem.Spec PyProof.Rows L2
abbrev DSp := List D → Cs → DP → XZ → Prop
def spL (K : PySem.W.Frag) (n : Nat) (sp : DSp) : Sp := fun vs H Q E => ∃ F cs ds P Z, Sta K F (pur F cs H) cs H ∧ RepL K (pur F cs H) vs ds ∧ ds.length = n ∧ sp ds cs P Z ∧ PostE K F (pur F cs H) P Q ∧ PostX K F (pur F cs H) Z E
theorem spL_len {K : PySem.W.Frag} {n : Nat} {sp : DSp} : ∀ vs H Q E, spL K n sp vs H Q E → vs.length = n := fun vs H Q E ⟨F, cs, ds, P, Z, s, r, l, _⟩ => r.length.trans l
section
variable {X : Cx} {W : WX} {K : PySem.W.Frag} {σ : L2.St} {H : Hp} {CX : CXT} {k n : Nat} {f : Addr} {fd : FuncData} {ps : List Str} {sp : DSp} {x : Str} {p pos : Pos} {e : Expr} {es : List Expr} {w : WA} {dvs : List V} {dds : List D} {ds : List Value}
def wCall (sp : DSp) (dds : List D) (w : WA) : WE := fun ρ cs P Z => w ρ cs (fun ds cs1 => sp (ds ++ dds) cs1 P Z) Z
theorem RepL.const {dvs : List V} {dds : List D} (h : ∀ G, RepL K G dvs dds) {G : Hp} {vs : List V} {ds : List D} (r : RepL K G vs ds) : RepL K G (vs ++ dvs) (ds ++ dds) := r.append (h G)
theorem call_ok {m : Nat} (hd : ∀ G, RepL K G dvs dds) (hn : m + dds.length = n) {Q : VK} : lE K W (wCall sp dds w) σ H Q → tCallSD (spL K n sp) dvs (L2.WE W) (lA K W m w) σ H Q := by
  rintro ⟨F, cs, ρ, P, Z, s, re, hw, pe, px⟩
  refine ⟨F, cs, ρ, _, Z, s, re, hw, fun H1 cs1 vs ds s1 r1 l1 h1 => ?_, px⟩
  exact ⟨F, cs1, _, P, Z, s1.self, RepL.const hd r1, by rw [List.length_append, l1]; exact hn, h1, pe.le s1.gr, px.le s1.gr⟩
/-- f(e, ..), the defaults dds behind -/
theorem d_call (F : FnOk X.prog X.w X.K X.mg X.base (L2.CX X.prog X.w) k f fd ps (spL X.K n sp)) (hr : Room k X.A) (hg : Gl X x) (hm : X.mg x = some (.ref f)) (hk : PySem.W.keepIn X.K (.ref f) = true) (hb : Binds X.K fd ps ds) (hd : Vals dvs ds) (hdd : ∀ G, RepL X.K G dvs dds) (tk : Takes X W)
    (ha : DA X W (e :: es) w) (hn : (e :: es).length + dds.length = n := by rfl) (hdb : (x == ("__debug__" : Str)) = false := by decide) (he : starEach (e :: es) X.env = (false, eval e X.env) :: starEach es X.env := by rfl) (hpl : (backTo pos (starEach es X.env)).any (·.1) = false := by rfl) :
    DE X W (.Call (.Name x p) (e :: es) [] pos) (wCall sp dds w) :=
  PE.imp (pe_callSD (E := L2.WE W) F hr hg hm hk hb hd (fun σ => passAt tk σ) ha hdb he hpl) fun _ _ _ h => call_ok hdd hn h
theorem d_callN (F : FnOk X.prog X.w X.K X.mg X.base (L2.CX X.prog X.w) k f fd ps (spL X.K n sp)) (hr : Room k X.A) (hg : Gl X x) (hm : X.mg x = some (.ref f)) (hk : PySem.W.keepIn X.K (.ref f) = true) (hb : Binds X.K fd ps []) (tk : Takes X W)
    (ha : DA X W (e :: es) w) (hn : (e :: es).length = n := by rfl) (hdb : (x == ("__debug__" : Str)) = false := by decide) (he : starEach (e :: es) X.env = (false, eval e X.env) :: starEach es X.env := by rfl) (hpl : (backTo pos (starEach es X.env)).any (·.1) = false := by rfl) :
    DE X W (.Call (.Name x p) (e :: es) [] pos) (wCall sp [] w) := d_call (dds := []) F hr hg hm hk hb .nil (fun _ => .nil) tk ha hn hdb he hpl
end
section
variable {P : Program} {w : World} {K : PySem.W.Frag} {mg : Str → Option Value} {base : Heap} {x qual : Str} {params : Arguments} {body : List Stmt} {scope : Scope} {dvs : List V} {kws : List (Str × V)} {f : Addr} {fd : FuncData}
def startD (N : List Str) (ds : List D) : Env := ds.map some ++ List.replicate (N.length - ds.length) none
/-- the end of a body -/
abbrev finD (P : DP) (Z : XZ) : Fin := { nx := fun _ cs => P .non cs, rt := P, ex := fun x _ cs => Z x cs }
abbrev cxD (P : Program) (w : World) (K : PySem.W.Frag) (mg : Str → Option Value) (base : Heap) (N : List Str) (qual : Str) (scope : Scope) (f : Addr) (cdv : Value) (A : Around) (outer : List PySem.Env) (s : Shared) (H : Hp) (E : XK) : Cx :=
  cxOf (L2.CX P w) P w K mg base N qual scope f cdv A outer s H E
theorem ok_def {N ps : List Str} {k : Nat} {sp : DSp} (F : FunD K x qual params body scope dvs kws f fd) (S : FnScope N ps scope) {u : WS}
    (hb : ∀ (cdv : Value) (A : Around) (outer : List PySem.Env) (s : Shared) (H : Hp) (E : XK), Room k (A.deeper (envOfC qual scope s.heap.objs.size f cdv)) → DSs (cxD P w K mg base N qual scope f cdv A outer s H E) (fun cls d _ H => E cls d H) body u)
    (hsp : ∀ ds cs Q Z, sp ds cs Q Z → ds.length = ps.length → u (finD Q Z) (startD N ds) cs) : FnOk P w K mg base (L2.CX P w) (k + 1) f fd ps (spL K ps.length sp) := by
  refine F.ok S spL_len fun cdv A outer s H vs Q E hr h => ?_
  obtain ⟨F, cs, ds, Pd, Z, st, r, l, hs, pe, px⟩ := h
  refine ⟨_, hb cdv A outer s H E hr, F, cs, startD N ds, finD Pd Z, st, ?_, hsp ds cs Pd Z hs l, ⟨fun H' cs' σ' ρ' s' _ h' => pe H' cs' .non .non s' .non h', fun _ _ _ _ _ _ h => h.elim, fun _ _ _ _ _ _ h => h.elim, pe, fun H' cs' σ' ρ' x d s' _ r' h' => px H' cs' x d s' r' h'⟩⟩
  unfold startD L2.start
  rw [r.length]
  exact RepE.start _ r
end
theorem takesD {P : Program} {w : World} {K : PySem.W.Frag} {mg : Str → Option Value} {base : Heap} {N : List Str} {qual : Str} {scope : Scope} {f : Addr} {cdv : Value} {A : Around} {outer : List PySem.Env} {s : Shared} {H : Hp} {E : XK} :
    Takes (cxD P w K mg base N qual scope f cdv A outer s H E) (fun cls d _ H => E cls d H) := takes_of rfl rfl rfl rfl
theorem passD {P : Program} {w : World} {K : PySem.W.Frag} {mg : Str → Option Value} {base : Heap} {N : List Str} {qual : Str} {scope : Scope} {f : Addr} {cdv : Value} {A : Around} {outer : List PySem.Env} {s : Shared} {H : Hp} {E : XK} :
    PassesOwn (model P w) (cxD P w K mg base N qual scope f cdv A outer s H E).A (cxD P w K mg base N qual scope f cdv A outer s H E).env (cxD P w K mg base N qual scope f cdv A outer s H E).xe :=
  passes_of (X := cxD P w K mg base N qual scope f cdv A outer s H E) rfl
section
variable {X : Cx} {W : WX} {K : PySem.W.Frag} {σ : L2.St} {H : Hp} {pos : Pos} {a b e : Expr} {wa wb : WE}
abbrev DSet := D → D → D → Cs → (Cs → Prop) → Prop
def oSetL : DSet := fun o i v cs Q => match o, i with
  | .opq (.ref p), .int k => (match look p cs with
    | some (.lst ds) => (match ixN ds.length k with
      | some j => Q (put p (.lst (ds.set j v)) cs)
      | none => False)
    | _ => False)
  | _, _ => False
/-- o[i] = v -/
def sSetIx (wv wo wi : WE) (o : DSet) : WS := fun f ρ cs => wv ρ cs (fun v cs1 => wo ρ cs1 (fun x cs2 => wi ρ cs2 (fun i cs3 => o x i v cs3 fun cs4 => f.nx ρ cs4) (fun x cs1 => f.ex x ρ cs1)) (fun x cs1 => f.ex x ρ cs1)) (fun x cs1 => f.ex x ρ cs1)
theorem setL_inv {o i v : D} {cs : Cs} {Q : Cs → Prop} (h : oSetL o i v cs Q) : ∃ p k ds j, o = .opq (.ref p) ∧ i = .int k ∧ look p cs = some (.lst ds) ∧ ixN ds.length k = some j ∧ Q (put p (.lst (ds.set j v)) cs) := by
  unfold oSetL at h
  split at h
  · split at h
    · rename_i e
      split at h
      · rename_i e2
        exact ⟨_, _, _, _, rfl, rfl, e, e2, h⟩
      · exact h.elim
    · exact h.elim
  · exact h.elim
theorem lst_at {K : PySem.W.Frag} {F G0 H : Hp} {cs : Cs} {p : Addr} {ds : List D} (s : Sta K F G0 cs H) (h : look p cs = some (.lst ds)) : ∃ vs, H p = some (.lst vs) ∧ RepL K (pur F cs H) vs ds := by
  obtain ⟨o, e, q⟩ := s.look h
  cases o <;> first | exact ⟨_, e, q⟩ | exact q.elim
theorem ds_setix {o i v : Expr} {wo wi wv : WE} {p1 : Pos} (hv : DE X W v wv) (ho : DE X W o wo) (hi : DE X W i wi)
    (ha : ∀ u, assign (.Subscript o i p1) X.env u = (do
      let ov ← holding [u] (eval o X.env)
      let iv ← holding [u, ov] (eval i X.env)
      standAt p1
      holding [u, ov, iv] (setItem ov iv u)
      release [u, ov, iv] []) := by intro _; rfl)
    (hs : swapsWithSole [.Subscript o i p1] v pos.line X.env = pure false := by rfl) (hw : swappedStores [.Subscript o i p1] v X.env = pure none := by rfl) (h1 : (assignEach [.Subscript o i p1] X.env).map (·.2) = [assign (.Subscript o i p1) X.env] := by rfl) :
    DS X W (.Assign [.Subscript o i p1] v pos) (sSetIx wv wo wi oSetL) := PS.imp (ps_asg hv (pg_sub ho hi set_list ha) hs hw h1) fun E σ H h => by
  obtain ⟨F, cs, ρ, f, s, re, hw, pe⟩ := h
  refine ⟨F, cs, ρ, _, _, s, re, hw, fun H1 cs1 y dy s1 r1 h1 => ?_, pe.px re⟩
  refine ⟨F, cs1, ρ, _, _, s1.self, re.mono s1.gr, h1, fun H2 cs2 x dx s2 r2 h2 => ?_, (pe.le s1.gr).px (re.mono s1.gr)⟩
  refine ⟨F, cs2, ρ, _, _, s2.self, re.mono (s1.gr.trans s2.gr), h2, fun H3 cs3 z dz s3 r3 h3 => ?_, (pe.le (s1.gr.trans s2.gr)).px (re.mono (s1.gr.trans s2.gr))⟩
  obtain ⟨p, k, ds, j, rfl, rfl, hl, hj, h⟩ := setL_inv h3
  obtain ⟨vs, e, rl⟩ := lst_at s3 hl
  cases r2
  cases r3
  have s4 := s3.put hl (m' := .lst (ds.set j dy)) (o' := .lst (vs.set j y)) (rl.set (r1.mono (s2.gr.trans s3.gr)) j)
  refine ⟨p, vs, k, j, rfl, rfl, e, by rw [rl.length]; exact hj, ?_⟩
  have g := (s1.gr.trans s2.gr).trans s3.gr
  exact pe.nx _ _ σ ρ (s4.from_ g) (re.mono (g.trans s4.gr)) h
/-- the i-th item of the changing list at p; len of it -/
def oIxM : DO2 := fun x y cs P => match x, y with
  | .opq (.ref p), .int i => (match look p cs with
    | some (.lst ds) => (match atD ds i with
      | some d => P d cs
      | none => False)
    | _ => False)
  | _, _ => False
theorem adq_ixM : Adq K (rIx K) oIxM := fun F cs H x y dx dy P Q s rx ry ho pe => by
  unfold oIxM at ho
  split at ho
  · split at ho
    · rename_i e
      split at ho
      · rename_i d e2
        cases rx
        cases ry
        obtain ⟨vs, e3, rl⟩ := lst_at s e
        obtain ⟨v, e4, rv⟩ := rl.atI e2
        exact .inl ⟨_, _, _, v, rfl, rfl, SqL.of e3, e4, pe H cs _ _ s rv ho⟩
      · exact ho.elim
    · exact ho.elim
  · exact ho.elim
theorem d_ixM (ha : DE X W a wa) (hb : DE X W b wb) (hs : PlainIx b := by intro _ _; rfl) : DE X W (.Subscript a b pos) (wOp oIxM wa wb) := d_ix ix_seq adq_ixM ha hb hs
/-- methods of lists that change -/
abbrev DMt := D → List D → Cs → DP → Prop
def oAppend : DMt := fun x ds cs P => match x, ds with
  | .opq (.ref p), [d] => (match look p cs with
    | some (.lst xs) => xs.length < 100000 ∧ P .non (put p (.lst (xs ++ [d])) cs)
    | _ => False)
  | _, _ => False
end
end DL
namespace DL
open PySem L2
def dR (r : Rat) : D := .tup [.int r.num, .int (r.den : Int)]
theorem dR_inj {r s : Rat} (h : dR r = dR s) : r = s := by
  unfold dR at h
  simp at h
  exact Rat.ext h.1 (Int.ofNat_inj.mp h.2)
theorem eqD_int (i j : Int) : eqD (.int i) (.int j) = decide (i = j) := by
  unfold eqD
  rw [Bool.beq_eq_decide_eq]
theorem eqD_dR (r s : Rat) : eqD (dR r) (dR s) = decide (r = s) := by
  unfold dR
  simp only [eqD, eqL, Bool.and_true]
  rw [Bool.beq_eq_decide_eq, Bool.beq_eq_decide_eq, ← Bool.decide_and]
  have e : (r.num = s.num ∧ (r.den : Int) = (s.den : Int)) ↔ r = s := ⟨fun h => Rat.ext h.1 (Int.ofNat_inj.mp h.2), fun h => by rw [h]; exact ⟨rfl, rfl⟩⟩
  exact decide_eq_decide.mpr e
/-- both numbers below 2 ^ n -/
def Sz (n : Nat) (r : Rat) : Prop := r.num.natAbs < 2 ^ n ∧ r.den < 2 ^ n
theorem Sz.mono {n m : Nat} {r : Rat} (h : Sz n r) (l : n ≤ m) : Sz m r :=
  ⟨Nat.lt_of_lt_of_le h.1 (Nat.pow_le_pow_right (by decide) l), Nat.lt_of_lt_of_le h.2 (Nat.pow_le_pow_right (by decide) l)⟩
theorem mulOk_of {i j : Int} {a b : Nat} (ha : i.natAbs < 2 ^ a) (hb : j.natAbs < 2 ^ b) (h : a + b ≤ 900000) : IntMulOk i j := by
  have ha' : i.natAbs < 2 ^ (a + 1) := Nat.lt_of_lt_of_le ha (Nat.pow_le_pow_right (by decide) (Nat.le_succ _))
  have hb' : j.natAbs < 2 ^ (b + 1) := Nat.lt_of_lt_of_le hb (Nat.pow_le_pow_right (by decide) (Nat.le_succ _))
  exact CMulW.ok (wide_mul ha' hb' (Nat.succ_pos _) (Nat.succ_pos _) (by omega))
theorem mulOk_r {i j : Int} (h : j.natAbs < 2 ^ 64) : IntMulOk i j := CMul.ok (Or.inr (by omega))
theorem mulOk_l {i j : Int} (h : i.natAbs < 2 ^ 64) : IntMulOk i j := CMul.ok (Or.inl (by omega))
theorem gcd_pos {a b : Nat} (h : 0 < b) : 0 < Nat.gcd a b := Nat.gcd_pos_of_pos_right a h
/-- what part reckons -/
theorem part_pos (a b : Int) (h : 0 < b) : a / (Nat.gcd a.natAbs b.natAbs : Nat) = (Rat.divInt a b).num ∧ b / (Nat.gcd a.natAbs b.natAbs : Nat) = ((Rat.divInt a b).den : Int) := by
  have e : (Int.gcd b a) = Nat.gcd a.natAbs b.natAbs := by rw [Int.gcd, Nat.gcd_comm]
  constructor
  · rw [Rat.num_divInt, Int.sign_eq_one_of_pos h, Int.one_mul, e]
  · rw [Rat.den_divInt, if_neg (by omega), e]
    have : (b.natAbs : Int) = b := by omega
    rw [Int.natCast_ediv, this]
theorem part_neg (a b : Int) : Rat.divInt (-a) (-b) = Rat.divInt a b := Rat.neg_divInt_neg a b
theorem divInt_add (x y : Rat) : Rat.divInt (x.num * y.den + y.num * x.den) ((x.den : Int) * y.den) = x + y := by
  rw [Rat.add_def', ← Int.natCast_mul, Rat.divInt_ofNat]
theorem divInt_mul (x y : Rat) : Rat.divInt (x.num * y.num) ((x.den : Int) * y.den) = x * y := by
  rw [Rat.mul_def', ← Int.natCast_mul, Rat.divInt_ofNat]
theorem divInt_div (x y : Rat) : Rat.divInt (x.num * y.den) ((x.den : Int) * y.num) = x / y := by
  rw [Rat.div_def, Rat.inv_def, ← Rat.divInt_mul_divInt, Rat.num_divInt_den]
theorem den_ne (x : Rat) : (x.den : Int) ≠ 0 := by have := x.den_nz; omega
theorem den_pos (x : Rat) : (0 : Int) < x.den := by have := x.den_nz; omega
theorem gcd_ok {a b : Nat} (hb : 0 < b) (h : b < 2 ^ 9000) : (0 : Int) < (Nat.gcd a b : Int) ∧ (Nat.gcd a b : Int).natAbs.log2 < 9000 := by
  refine ⟨by have := gcd_pos (a := a) hb; omega, ?_⟩
  refine PySem.Flt.log2_lt_of (by decide) ?_
  rw [Int.natAbs_natCast]
  exact Nat.lt_of_le_of_lt (Nat.gcd_le_right _ hb) h
theorem abs_nat (a : Int) : (if a < 0 then -a else a) = (a.natAbs : Int) := by
  split <;> omega
theorem Sz.divInt {a b : Int} {n m : Nat} (h0 : b ≠ 0) (ha : a.natAbs < 2 ^ n) (hb : b.natAbs < 2 ^ m) (hn : n ≤ m) : Sz m (Rat.divInt a b) := by
  have ha' : a.natAbs < 2 ^ m := Nat.lt_of_lt_of_le ha (Nat.pow_le_pow_right (by decide) hn)
  constructor
  · rw [Rat.num_divInt]
    refine Nat.lt_of_le_of_lt ?_ ha'
    refine Nat.le_trans (Int.natAbs_ediv_le_natAbs _ _) ?_
    rw [Int.natAbs_mul]
    have : b.sign.natAbs ≤ 1 := by
      rcases Int.lt_trichotomy b 0 with h | h | h
      · rw [Int.sign_eq_neg_one_of_neg h]; decide
      · exact absurd h h0
      · rw [Int.sign_eq_one_of_pos h]; decide
    exact Nat.le_trans (Nat.mul_le_mul_right _ this) (by omega)
  · rw [Rat.den_divInt, if_neg h0]
    exact Nat.lt_of_le_of_lt (Nat.div_le_self _ _) hb
theorem lt_mul2 {a b n m : Nat} (ha : a < 2 ^ n) (hb : b < 2 ^ m) : a * b < 2 ^ (n + m) := by
  rw [Nat.pow_add]
  exact Nat.mul_lt_mul'' ha hb
theorem lt_add2 {a b n : Nat} (ha : a < 2 ^ n) (hb : b < 2 ^ n) : a + b < 2 ^ (n + 1) := by
  rw [Nat.pow_succ]; omega
theorem Sz.add {n m : Nat} {x y : Rat} (hx : Sz n x) (hy : Sz m y) : Sz (n + m + 1) (x + y) := by
  rw [← divInt_add]
  refine Sz.divInt (n := n + m + 1) (Int.mul_ne_zero (den_ne x) (den_ne y)) ?_ ?_ (Nat.le_refl _)
  · refine Nat.lt_of_le_of_lt (Int.natAbs_add_le _ _) ?_
    refine lt_add2 ?_ ?_
    · rw [Int.natAbs_mul]; exact lt_mul2 hx.1 hy.2
    · rw [Int.natAbs_mul, Nat.add_comm]; exact lt_mul2 hy.1 hx.2
  · rw [Int.natAbs_mul]
    exact Nat.lt_of_lt_of_le (lt_mul2 hx.2 hy.2) (Nat.pow_le_pow_right (by decide) (Nat.le_succ _))
theorem Sz.neg {n : Nat} {x : Rat} (hx : Sz n x) : Sz n (-x) := ⟨by rw [Rat.neg_num, Int.natAbs_neg]; exact hx.1, by rw [Rat.neg_den]; exact hx.2⟩
theorem Sz.sub {n m : Nat} {x y : Rat} (hx : Sz n x) (hy : Sz m y) : Sz (n + m + 1) (x - y) := by
  rw [Rat.sub_eq_add_neg]; exact hx.add hy.neg
theorem Sz.mul {n m : Nat} {x y : Rat} (hx : Sz n x) (hy : Sz m y) : Sz (n + m) (x * y) := by
  rw [← divInt_mul]
  refine Sz.divInt (n := n + m) (Int.mul_ne_zero (den_ne x) (den_ne y)) ?_ ?_ (Nat.le_refl _)
  · rw [Int.natAbs_mul]; exact lt_mul2 hx.1 hy.1
  · rw [Int.natAbs_mul]; exact lt_mul2 hx.2 hy.2
theorem Sz.div {n m : Nat} {x y : Rat} (hx : Sz n x) (hy : Sz m y) (h : y ≠ 0) : Sz (n + m) (x / y) := by
  rw [← divInt_div]
  refine Sz.divInt (n := n + m) (Int.mul_ne_zero (den_ne x) (fun z => h (Rat.num_eq_zero.mp z))) ?_ ?_ (Nat.le_refl _)
  · rw [Int.natAbs_mul]; exact lt_mul2 hx.1 hy.2
  · rw [Int.natAbs_mul]; exact lt_mul2 hx.2 hy.1
theorem Sz.nd {n m : Nat} {x y : Rat} (hx : Sz n x) (hy : Sz m y) (h : n + m ≤ 900000 := by decide) : IntMulOk x.num (y.den : Int) := mulOk_of hx.1 (by rw [Int.natAbs_natCast]; exact hy.2) h
/-- the greater of x by y and y by x -/
def shapeR (x y : Rat) : Rat := if x < y then y / x else x / y
theorem Sz.shape {n m : Nat} {x y : Rat} (hx : Sz n x) (hy : Sz m y) (x0 : 0 < x) (y0 : 0 < y) : Sz (n + m) (shapeR x y) := by
  unfold shapeR
  split
  · rw [Nat.add_comm]; exact hy.div hx (Rat.ne_of_gt x0)
  · exact hx.div hy (Rat.ne_of_gt y0)
end DL
namespace DL
open PySem PySem.Spec PyProof.Rows L2
section
variable {X : Cx} {W : WX} {K : PySem.W.Frag} {σ : L2.St} {H : Hp} {pos : Pos} {a b e : Expr} {es : List Expr} {wa wb we : DL.WE} {w : WA} {name : Str} {apos cpos : Pos} {T id : String}
def isL (d : D) (cs : Cs) : Prop := match d with
  | .lst _ => True
  | .opq (.ref p) => (match look p cs with
    | some (.lst _) => True
    | _ => False)
  | _ => False
def wMtL (o : DMt) (wo : DL.WE) (w : WA) : DL.WE := fun ρ cs P Z => wo ρ cs (fun x cs1 => isL x cs1 ∧ w ρ cs1 (fun ds cs2 => o x ds cs2 P) Z) Z
def wMtL0 (o : DMt) (wo : DL.WE) : DL.WE := fun ρ cs P Z => wo ρ cs (fun x cs1 => isL x cs1 ∧ o x [] cs1 P) Z
def cntD (xs : List D) (d : D) : Nat := xs.countP fun y => eqD y d
def oCount : DMt := fun x ds cs P => match x, ds with
  | .lst xs, [d] => plL 20 xs = true ∧ plD 20 d = true ∧ P (.int (cntD xs d : Int)) cs
  | _, _ => False
end
end DL
namespace DL
open PySem PySem.Spec PyProof.Rows L2
section
variable {ρ : DL.Env} {cs : Cs} {P : DP} {Z : XZ} {wa wb we wo wi wv : DL.WE} {w : WA} {ta tb : WT} {u v : WS} {f : Fin} {Q : Bool → Cs → Prop} {d x y : D} {i j : Nat} {PA : List D → Cs → Prop}
section
variable {nx bk ct : DL.Env → Cs → Prop} {rt : D → Cs → Prop} {ex : Exn → DL.Env → Cs → Prop}
theorem r_seq (h : u ⟨fun ρ' cs' => v ⟨nx, rt, ex, bk, ct⟩ ρ' cs', rt, ex, bk, ct⟩ ρ cs) : sSeq u v ⟨nx, rt, ex, bk, ct⟩ ρ cs := h
theorem r_key (N : DL.Env → Cs → Prop) (h1 : ∀ ρ' cs', N ρ' cs' → v ⟨nx, rt, ex, bk, ct⟩ ρ' cs') (h2 : ∀ nx' : DL.Env → Cs → Prop, (∀ ρ' cs', N ρ' cs' → nx' ρ' cs') → u ⟨nx', rt, ex, bk, ct⟩ ρ cs) : sSeq u v ⟨nx, rt, ex, bk, ct⟩ ρ cs := h2 _ h1
end
theorem r_loop {g : WG} {wb : WS} (I : Nat → DL.Env → Cs → Prop) : ∀ (xs : List D) (k : Nat) {ρ : DL.Env} {cs : Cs}, I k ρ cs →
    (∀ i d ρ cs (N : DL.Env → Cs → Prop), xs[i]? = some d → I (k + i) ρ cs → (∀ ρ' cs', I (k + i + 1) ρ' cs' → N ρ' cs') → g d ρ fun ρ1 => wb { f with nx := N, ct := N, bk := f.nx } ρ1 cs) →
    (∀ ρ cs, I (k + xs.length) ρ cs → f.nx ρ cs) → loopW g wb f xs ρ cs
  | [], k, ρ, cs, h0, hs, hd => hd ρ cs h0
  | d :: r, k, ρ, cs, h0, hs, hd => by
    refine hs 0 d ρ cs _ rfl h0 fun ρ' cs' h1 => r_loop I r (k + 1) h1 (fun i d ρ cs N e hi hn => ?_) (fun ρ cs h => ?_)
    · have e1 : k + (i + 1) = k + 1 + i := by omega
      refine hs (i + 1) d ρ cs N e (by rw [e1]; exact hi) fun ρ' cs' hh => hn ρ' cs' (by rw [← e1]; exact hh)
    · refine hd ρ cs ?_
      have e1 : k + (d :: r).length = k + 1 + r.length := by rw [List.length_cons]; omega
      rw [e1]; exact h
theorem r_loop0 {nx bk ct : DL.Env → Cs → Prop} {rt : D → Cs → Prop} {ex : Exn → DL.Env → Cs → Prop} {g : WG} {wb : WS} (I : Nat → DL.Env → Cs → Prop) {xs : List D} (h0 : I 0 ρ cs)
    (hs : ∀ i d ρ cs (N : DL.Env → Cs → Prop), xs[i]? = some d → I i ρ cs → (∀ ρ' cs', I (i + 1) ρ' cs' → N ρ' cs') → g d ρ fun ρ1 => wb ⟨N, rt, ex, nx, N⟩ ρ1 cs)
    (hd : ∀ ρ cs, I xs.length ρ cs → nx ρ cs) : loopW g wb ⟨nx, rt, ex, bk, ct⟩ xs ρ cs :=
  r_loop I xs 0 h0 (fun i d ρ cs N e hi hn => hs i d ρ cs N e (by rw [Nat.zero_add] at hi; exact hi) (by rw [Nat.zero_add] at hn; exact hn)) (fun ρ cs h => hd ρ cs (by rw [Nat.zero_add] at h; exact h))
theorem r_while {nx bk ct : DL.Env → Cs → Prop} {rt : D → Cs → Prop} {ex : Exn → DL.Env → Cs → Prop} {wt : WT} {wb : WS} (I : Nat → DL.Env → Cs → Prop) (h0 : ∃ m, I m ρ cs)
    (hs : ∀ m ρ cs (N : DL.Env → Cs → Prop), I m ρ cs → (∀ m' ρ' cs', m' < m → I m' ρ' cs' → N ρ' cs') → wt ρ cs (fun k cs1 => (k = true → wb ⟨N, rt, ex, nx, N⟩ ρ cs1) ∧ (k = false → nx ρ cs1)) (fun x cs1 => ex x ρ cs1)) :
    sWhile wt wb ⟨nx, rt, ex, bk, ct⟩ ρ cs := ⟨I, h0, fun m ρ cs h => hs m ρ cs _ h fun m' ρ' cs' hm hi => ⟨m', hm, hi⟩⟩
theorem r_gN {k : DL.Env → Prop} (h : k (ρ.set i (some d))) : gN i d ρ k := h
theorem r_gT {n : Nat} {gs : WGs} {ds : List D} {k : DL.Env → Prop} (hn : ds.length = n) (h : gs ds ρ k) : gT n gs (.tup ds) ρ k := ⟨hn, h⟩
theorem r_gCn {g : WG} {gs : WGs} {ds : List D} {k : DL.Env → Prop} (h : g d ρ fun ρ' => gs ds ρ' k) : gCn g gs (d :: ds) ρ k := h
theorem r_gNl {k : DL.Env → Prop} (h : k ρ) : gNl [] ρ k := h
theorem rng_get {lo : Int} {n i : Nat} {d : D} (h : (rngD lo n)[i]? = some d) : d = .int (lo + (i : Int)) ∧ i < n := by
  obtain ⟨h1, h2⟩ := List.getElem?_eq_some_iff.mp h
  simp [rngD] at h1 h2
  exact ⟨h2.symm, h1⟩
theorem rng_len (lo : Int) (n : Nat) : (rngD lo n).length = n := by simp [rngD]
theorem r_kT {A B : Prop} (h : A) : (true = true → A) ∧ (true = false → B) := ⟨fun _ => h, fun z => absurd z (by decide)⟩
theorem r_nT {A B : Prop} (h : B) : ((!true) = true → A) ∧ ((!true) = false → B) := ⟨fun z => absurd z (by decide), fun _ => h⟩
theorem r_nF {A B : Prop} (h : A) : ((!false) = true → A) ∧ ((!false) = false → B) := ⟨fun _ => h, fun z => absurd z (by decide)⟩
theorem r_kF {A B : Prop} (h : B) : (false = true → A) ∧ (false = false → B) := ⟨fun z => absurd z (by decide), fun _ => h⟩
section
variable {nx bk ct : DL.Env → Cs → Prop} {rt : D → Cs → Prop} {ex : Exn → DL.Env → Cs → Prop}
theorem r_nx (h : nx ρ cs) : Fin.nx ⟨nx, rt, ex, bk, ct⟩ ρ cs := h
theorem r_rt (h : rt d cs) : Fin.rt ⟨nx, rt, ex, bk, ct⟩ d cs := h
theorem r_bk (h : bk ρ cs) : Fin.bk ⟨nx, rt, ex, bk, ct⟩ ρ cs := h
theorem r_cn (h : ct ρ cs) : Fin.ct ⟨nx, rt, ex, bk, ct⟩ ρ cs := h
end
theorem r_next (h : f.nx ρ cs) : sNext f ρ cs := h
theorem r_ret (h : we ρ cs f.rt (fun x cs1 => f.ex x ρ cs1)) : sRet we f ρ cs := h
theorem r_retN (h : f.rt .non cs) : sRetN f ρ cs := h
theorem r_drop (h : we ρ cs (fun _ cs1 => f.nx ρ cs1) (fun x cs1 => f.ex x ρ cs1)) : sDrop we f ρ cs := h
theorem r_brk (h : f.bk ρ cs) : sBreak f ρ cs := h
theorem r_ct (h : f.ct ρ cs) : sCont f ρ cs := h
theorem r_sif (h : ta ρ cs (fun k cs1 => (k = true → u f ρ cs1) ∧ (k = false → v f ρ cs1)) (fun x cs1 => f.ex x ρ cs1)) : sIf ta u v f ρ cs := h
theorem r_set (h : we ρ cs (fun d cs1 => f.nx (ρ.set i (some d)) cs1) (fun x cs1 => f.ex x ρ cs1)) : sAsg we (gN i) f ρ cs := h
theorem r_asg {g : WG} (h : we ρ cs (fun d cs1 => g d ρ fun ρ' => f.nx ρ' cs1) (fun x cs1 => f.ex x ρ cs1)) : sAsg we g f ρ cs := h
theorem r_par (h : wa ρ cs (fun x cs1 => wb ρ cs1 (fun y cs2 => f.nx ((ρ.set i (some x)).set j (some y)) cs2) (fun x cs1 => f.ex x ρ cs1)) (fun x cs1 => f.ex x ρ cs1)) : sPar i j (wCons wa (wCons wb wNil)) f ρ cs := h
theorem r_setix (h : wv ρ cs (fun v cs1 => wo ρ cs1 (fun x cs2 => wi ρ cs2 (fun i cs3 => oSetL x i v cs3 fun cs4 => f.nx ρ cs4) (fun x cs1 => f.ex x ρ cs1)) (fun x cs1 => f.ex x ρ cs1)) (fun x cs1 => f.ex x ρ cs1)) : sSetIx wv wo wi oSetL f ρ cs := h
theorem r_aug {o : DO2} (hi : ρ[i]? = some (some x)) (h : we ρ cs (fun y cs1 => o x y cs1 fun z cs2 => f.nx (ρ.set i (some z)) cs2) (fun x cs1 => f.ex x ρ cs1)) : sAug i o we f ρ cs := by
  unfold sAug; rw [hi]; exact h
theorem r_for {wi : WI} {g : WG} (h : wi ρ cs (fun xs cs1 => loopW g u f xs ρ cs1) (fun x cs1 => f.ex x ρ cs1)) : sFor wi g u f ρ cs := h
theorem r_var (hi : ρ[i]? = some (some d)) (h : P d cs) : wVar i ρ cs P Z := by
  unfold wVar; rw [hi]; exact h
theorem r_c (h : P d cs) : wC d ρ cs P Z := h
theorem r_op {o : DO2} (h : wa ρ cs (fun x cs1 => wb ρ cs1 (fun y cs2 => o x y cs2 P) Z) Z) : wOp o wa wb ρ cs P Z := h
theorem r_un {o : D → Cs → DP → Prop} (h : wa ρ cs (fun x cs1 => o x cs1 P) Z) : wUn o wa ρ cs P Z := h
theorem r_test (h : wa ρ cs (fun x cs1 => match x with | .bl k => Q k cs1 | _ => False) Z) : wTest wa ρ cs Q Z := h
theorem r_and (h : ta ρ cs (fun k cs1 => (k = true → tb ρ cs1 Q Z) ∧ (k = false → Q false cs1)) Z) : wAnd ta tb ρ cs Q Z := h
theorem r_or (h : ta ρ cs (fun k cs1 => (k = true → Q true cs1) ∧ (k = false → tb ρ cs1 Q Z)) Z) : wOr ta tb ρ cs Q Z := h
theorem r_not (h : ta ρ cs (fun k cs1 => Q (!k) cs1) Z) : wNot ta ρ cs Q Z := h
theorem r_if (h : ta ρ cs (fun k cs1 => (k = true → wa ρ cs1 P Z) ∧ (k = false → wb ρ cs1 P Z)) Z) : wIf ta wa wb ρ cs P Z := h
theorem r_andV (h : wa ρ cs (fun x cs1 => match x with | .bl k => (k = true → wb ρ cs1 P Z) ∧ (k = false → P (.bl false) cs1) | _ => False) Z) : wAndV wa wb ρ cs P Z := h
theorem r_orV (h : wa ρ cs (fun x cs1 => match x with | .bl k => (k = true → P (.bl true) cs1) ∧ (k = false → wb ρ cs1 P Z) | _ => False) Z) : wOrV wa wb ρ cs P Z := h
theorem r_notV (h : wa ρ cs (fun x cs1 => match x with | .bl k => P (.bl (!k)) cs1 | _ => False) Z) : wNotV wa ρ cs P Z := h
theorem r_nil (h : PA [] cs) : wNil ρ cs PA Z := h
theorem r_cons (h : we ρ cs (fun x cs1 => w ρ cs1 (fun xs cs2 => PA (x :: xs) cs2) Z) Z) : wCons we w ρ cs PA Z := h
theorem r_tup (h : w ρ cs (fun ds cs1 => P (.tup ds) cs1) Z) : wTup w ρ cs P Z := h
theorem r_lst (h : w ρ cs (fun ds cs1 => P (.lst ds) cs1) Z) : wLst w ρ cs P Z := h
theorem r_cb {o : DOn} (h : w ρ cs (fun ds cs1 => o ds cs1 P) Z) : wCB o w ρ cs P Z := h
theorem r_call {sp : DSp} (h : w ρ cs (fun ds cs1 => sp ds cs1 P Z) Z) : wCall sp [] w ρ cs P Z := by
  unfold wCall
  have e : (fun (ds : List D) (cs1 : Cs) => sp (ds ++ []) cs1 P Z) = fun ds cs1 => sp ds cs1 P Z := by
    funext ds cs1
    rw [List.append_nil]
  rw [e]
  exact h
theorem r_mtL {o : DMt} (h : wo ρ cs (fun x cs1 => isL x cs1 ∧ w ρ cs1 (fun ds cs2 => o x ds cs2 P) Z) Z) : wMtL o wo w ρ cs P Z := h
theorem r_mtL0 {o : DMt} (h : wo ρ cs (fun x cs1 => isL x cs1 ∧ o x [] cs1 P) Z) : wMtL0 o wo ρ cs P Z := h
variable {a b : Int} {p : Addr} {xs : List D}
theorem r_add (h : P (.int (a + b)) cs) : oAdd (.int a) (.int b) cs P := h
theorem r_sub (h : P (.int (a - b)) cs) : oSub (.int a) (.int b) cs P := h
theorem r_mul (hm : IntMulOk a b) (h : P (.int (a * b)) cs) : oMul (.int a) (.int b) cs P := ⟨hm, h⟩
theorem r_div (hm : 0 < b ∧ b.natAbs.log2 < 9000) (h : P (.int (a / b)) cs) : oDiv (.int a) (.int b) cs P := ⟨hm, h⟩
theorem r_mod (hm : 0 < b) (h : P (.int (a % b)) cs) : oMod (.int a) (.int b) cs P := ⟨hm, h⟩
theorem r_pow (hm : CPow a b) (h : P (.int (a ^ b.toNat)) cs) : oPow (.int a) (.int b) cs P := ⟨hm, h⟩
theorem r_lt (h : P (.bl (decide (a < b))) cs) : oLt (.int a) (.int b) cs P := h
theorem r_le (h : P (.bl (decide (a ≤ b))) cs) : oLe (.int a) (.int b) cs P := h
theorem r_gt (h : P (.bl (decide (b < a))) cs) : oGt (.int a) (.int b) cs P := h
theorem r_ge (h : P (.bl (decide (b ≤ a))) cs) : oGe (.int a) (.int b) cs P := h
theorem r_neg (h : P (.int (-a)) cs) : oNeg (.int a) cs P := h
theorem r_eqI (h : P (.bl (decide (a = b))) cs) : oEq (.int a) (.int b) cs P := ⟨rfl, rfl, by rw [eqD_int]; exact h⟩
theorem r_neI (h : P (.bl (!decide (a = b))) cs) : oNe (.int a) (.int b) cs P := ⟨rfl, rfl, by rw [eqD_int]; exact h⟩
theorem r_eqS {s t : Str} (h : P (.bl (decide (s = t))) cs) : oEq (.str s) (.str t) cs P := ⟨rfl, rfl, by
  have e : eqD (.str s) (.str t) = decide (s = t) := by unfold eqD; rw [Bool.beq_eq_decide_eq]
  rw [e]; exact h⟩
theorem r_neS {s t : Str} (h : P (.bl (!decide (s = t))) cs) : oNe (.str s) (.str t) cs P := ⟨rfl, rfl, by
  have e : eqD (.str s) (.str t) = decide (s = t) := by unfold eqD; rw [Bool.beq_eq_decide_eq]
  rw [e]; exact h⟩
theorem eqD_bl (k l : Bool) : eqD (.bl k) (.bl l) = (k == l) := by unfold eqD; rfl
theorem r_eqB {k l : Bool} (h : P (.bl (k == l)) cs) : oEq (.bl k) (.bl l) cs P := ⟨rfl, rfl, by rw [eqD_bl]; exact h⟩
theorem r_neB {k l : Bool} (h : P (.bl (!(k == l))) cs) : oNe (.bl k) (.bl l) cs P := ⟨rfl, rfl, by rw [eqD_bl]; exact h⟩
theorem plD_dR (r : Rat) {n : Nat} : plD (n + 1) (dR r) = true := by
  cases n <;> rfl
theorem r_eqR {r s : Rat} (h : P (.bl (decide (r = s))) cs) : oEq (dR r) (dR s) cs P := ⟨plD_dR r, plD_dR s, by rw [eqD_dR]; exact h⟩
theorem r_neR {r s : Rat} (h : P (.bl (!decide (r = s))) cs) : oNe (dR r) (dR s) cs P := ⟨plD_dR r, plD_dR s, by rw [eqD_dR]; exact h⟩
theorem r_ixT (hi : atD xs a = some d) (h : P d cs) : oIx (.tup xs) (.int a) cs P := by
  unfold oIx; simp only [hi]; exact h
theorem r_ixL (hi : atD xs a = some d) (h : P d cs) : oIx (.lst xs) (.int a) cs P := by
  unfold oIx; simp only [hi]; exact h
theorem r_ixR0 {r : Rat} (h : P (.int r.num) cs) : oIx (dR r) (.int 0) cs P := h
theorem r_ixR1 {r : Rat} (h : P (.int (r.den : Int)) cs) : oIx (dR r) (.int 1) cs P := h
theorem r_ixM (hl : look p cs = some (.lst xs)) (hi : atD xs a = some d) (h : P d cs) : oIxM (.opq (.ref p)) (.int a) cs P := by
  unfold oIxM; simp only [hl, hi]; exact h
theorem r_setL {R : Cs → Prop} (hl : look p cs = some (.lst xs)) (hi : ixN xs.length a = some j) (h : R (put p (.lst (xs.set j d)) cs)) : oSetL (.opq (.ref p)) (.int a) d cs R := by
  unfold oSetL; simp only [hl, hi]; exact h
theorem r_abs (h : P (.int (if a < 0 then -a else a)) cs) : oAbs [.int a] cs P := h
theorem r_lenL (h : P (.int (xs.length : Int)) cs) : oLen [.lst xs] cs P := h
theorem r_lenT (h : P (.int (xs.length : Int)) cs) : oLen [.tup xs] cs P := h
theorem r_listL (h : P (.lst xs) cs) : oList [.lst xs] cs P := h
theorem r_listT (h : P (.lst xs) cs) : oList [.tup xs] cs P := h
theorem r_append (hl : look p cs = some (.lst xs)) (hz : xs.length < 100000) (h : P .non (put p (.lst (xs ++ [d])) cs)) : oAppend (.opq (.ref p)) [d] cs P := by
  unfold oAppend; simp only [hl]; exact ⟨hz, h⟩
theorem r_isM (hl : look p cs = some (.lst xs)) {R : Prop} (h : R) : isL (.opq (.ref p)) cs ∧ R := ⟨by unfold isL; simp only [hl], h⟩
theorem r_isL {R : Prop} (h : R) : isL (.lst xs) cs ∧ R := ⟨trivial, h⟩
theorem r_count (h1 : plL 20 xs = true) (h2 : plD 20 d = true) (h : P (.int (cntD xs d : Int)) cs) : oCount (.lst xs) [d] cs P := ⟨h1, h2, h⟩
theorem r_seqI {R : List D → Cs → Prop} (h : we ρ cs (fun d cs1 => match d with | .lst xs => R xs cs1 | _ => False) Z) : iSeq we ρ cs R Z := h
theorem r_tupI {R : List D → Cs → Prop} (h : we ρ cs (fun d cs1 => match d with | .tup xs => R xs cs1 | _ => False) Z) : iTupD we ρ cs R Z := h
theorem r_rg1 {R : List D → Cs → Prop} (h : we ρ cs (fun d cs1 => match d with | .int j => (-(2 ^ 62) ≤ j ∧ j < 2 ^ 62) ∧ R (rngD 0 j.toNat) cs1 | _ => False) Z) : iRg1 (wCons we wNil) ρ cs R Z := by
  unfold iRg1 wCons wNil
  have e : (fun (d : D) (cs1 : Cs) => (match [d] with | [D.int j] => (-(2 ^ 62) ≤ j ∧ j < 2 ^ 62) ∧ R (rngD 0 j.toNat) cs1 | _ => False)) = fun d cs1 => match d with | .int j => (-(2 ^ 62) ≤ j ∧ j < 2 ^ 62) ∧ R (rngD 0 j.toNat) cs1 | _ => False := by
    funext d cs1
    cases d <;> rfl
  rw [← e] at h
  exact h
theorem divOk {b : Int} (h : 0 < b) (h2 : b < 2 ^ 60) : 0 < b ∧ b.natAbs.log2 < 9000 := by
  refine ⟨h, ?_⟩
  have e : b.natAbs < 2 ^ 60 := by omega
  exact Nat.lt_of_lt_of_le (PySem.Flt.log2_lt_of (by decide) e) (by decide)
theorem put_look {p : Addr} {m : MO} : ∀ {cs : Cs}, look p cs = some m → put p m cs = cs
  | [], h => by cases h
  | (a, x) :: r, h => by
    unfold look at h
    unfold put
    split at h
    · rename_i e
      cases h
      rw [if_pos e]
    · rename_i e
      rw [if_neg e, put_look h]
theorem decT {p : Prop} [Decidable p] (h : decide p = true) : p := of_decide_eq_true h
theorem decF {p : Prop} [Decidable p] (h : decide p = false) : ¬ p := of_decide_eq_false h
theorem ndecT {p : Prop} [Decidable p] (h : (!decide p) = true) : ¬ p := by simpa using h
theorem ndecF {p : Prop} [Decidable p] (h : (!decide p) = false) : p := by simpa using h
end
end DL
namespace DL
open PySem PySem.Spec PyProof.Rows L2
section
variable {X : Cx} {W : WX} {K : PySem.W.Frag} {σ : L2.St} {H : Hp} {pos : Pos} {a b e : Expr} {es : List Expr} {wa wb we : DL.WE} {w : WA}
theorem d_ty {x : Str} {n : String} (hg : Gl X x) (hm : X.mg x = none) (hv : bootBuiltins x = some (.type n)) (hn : x ≠ "__name__" := by decide) (hd : (x == ("__debug__" : Str)) = false := by decide) : DE X W (.Name x pos) (wC (.opq (.ty n))) :=
  d_of (pe_bltn hg hm hv (v := .ty n) rfl hn hd) fun _ => .opq _
def tyS : D → Option String
  | .non => some "NoneType"
  | .bl _ => some "bool"
  | .int _ => some "int"
  | .str _ => some "str"
  | .tup _ => some "tuple"
  | .lst _ => some "list"
  | .dic _ => some "dict"
  | _ => none
def isT (t n : String) : Bool := t == n || (t == "bool" && n == "int")
theorem isT_kit : (["NoneType", "bool", "int", "str", "tuple", "list", "dict"].all fun t => ["bool", "int", "str", "tuple", "list", "dict"].all fun n => kitB t n == some (isT t n)) = true := by decide +kernel
theorem isT_ok {d : D} {t n : String} (h : tyS d = some t) (hn : (["bool", "int", "str", "tuple", "list", "dict"].contains n) = true) : PySem.W.kitOne K (.type t) (.type n) = some (isT t n) := by
  refine kit_ty ?_
  have h1 : t ∈ ["NoneType", "bool", "int", "str", "tuple", "list", "dict"] := by
    cases d <;> simp [tyS] at h <;> subst h <;> decide
  have h2 : n ∈ ["bool", "int", "str", "tuple", "list", "dict"] := by simpa using hn
  exact eq_of_beq (List.all_eq_true.mp (List.all_eq_true.mp isT_kit t h1) n h2)
theorem tyX_of {F : Hp} {cs : Cs} {x : V} {d : D} {t : String} (r : Rep K (pur F cs H) x d) (h : tyS d = some t) : TyX K H x (.type t) := by
  cases r with
  | non => simp [tyS] at h; subst h; exact .base .non
  | bl b => simp [tyS] at h; subst h; exact .base (.bl b)
  | int i => simp [tyS] at h; subst h; exact .base (.int i)
  | str x => simp [tyS] at h; subst h; exact .base (.str x)
  | opq v => simp [tyS] at h
  | lst h1 r =>
    simp [tyS] at h; subst h
    rcases ex_l pur_le h1 with (q | ⟨o, q⟩) | ⟨o, its, n, q, c, _⟩
    · exact .base (.lst q)
    · exact .base (.frz q)
    · exact .kList q c
  | tup h1 r =>
    simp [tyS] at h; subst h
    rcases ex_t pur_le h1 with (q | ⟨o, q⟩) | ⟨o, its, n, q, c, _⟩
    · exact .base (.tup q)
    · exact .fTuple q
    · exact .kTuple q c
  | dic h1 r =>
    simp [tyS] at h; subst h
    exact .fDict (pur_le _ _ h1)
  | dct h1 r => simp [tyS] at h
  | ins h1 h2 r => simp [tyS] at h
  | xcp h1 r => simp [tyS] at h
def isiD (d : D) (n : String) : Option Bool := (tyS d).bind fun t => if (["bool", "int", "str", "tuple", "list", "dict"].contains n) = true then some (isT t n) else none
def oIsi : DOn := fun ds cs P => match ds with
  | [d, .opq (.ty n)] => (match isiD d n with
    | some k => P (.bl k) cs
    | none => False)
  | _ => False
theorem isiD_inv {d : D} {n : String} {k : Bool} (h : isiD d n = some k) : ∃ t, tyS d = some t ∧ (["bool", "int", "str", "tuple", "list", "dict"].contains n) = true ∧ k = isT t n := by
  unfold isiD at h
  cases e : tyS d with
  | none => rw [e] at h; cases h
  | some t =>
    rw [e, Option.bind_some] at h
    split at h
    · rename_i hn
      cases h
      exact ⟨t, rfl, hn, rfl⟩
    · cases h
theorem adq_isi : AdqN K (rIsi K) oIsi := fun F cs H xs ds P Q s r ho pe => by
  unfold oIsi at ho
  split at ho
  · split at ho
    · rename_i k e
      obtain ⟨t, h1, h2, h3⟩ := isiD_inv e
      cases r with
      | cons r1 r2 =>
        cases r2 with
        | cons r2 r3 =>
          cases r3
          cases r2
          exact ⟨_, _, _, _, k, rfl, .ty _, tyX_of r1 h1, by rw [h3]; exact isT_ok h1 h2, pe H cs _ _ s (.bl _) ho⟩
    · exact ho.elim
  · exact ho.elim
/-- isinstance(x, (T1, T2, ..)) -/
def tyNames : List D → Option (List String)
  | [] => some []
  | .opq (.ty n) :: r => if (["bool", "int", "str", "tuple", "list", "dict"].contains n) = true then (tyNames r).map (n :: ·) else none
  | _ => none
def oIsiT : DOn := fun ds cs P => match ds with
  | [d, .tup ts] => (match tyS d, tyNames ts with
    | some t, some ns => P (.bl (ns.any fun n => isT t n)) cs
    | _, _ => False)
  | _ => False
theorem isiAny_ok {G : Hp} {d : D} {t : String} (ht : tyS d = some t) : ∀ {ts : List D} {vs : List V} {ns : List String}, RepL K G vs ts → tyNames ts = some ns → Paired ClsV vs (ns.map Value.type) ∧ PySem.W.kitAny K (.type t) (ns.map Value.type) = some (ns.any fun n => isT t n)
  | [], _, ns, .nil, h => by
      have e : some [] = some ns := h
      cases e; exact ⟨.nil, rfl⟩
  | c :: r, _, ns, .cons r1 r2, h => by
    cases c <;> try (simp [tyNames] at h; done)
    rename_i v
    cases v <;> try (simp [tyNames] at h; done)
    rename_i n
    cases r1
    unfold tyNames at h
    split at h
    · rename_i hn
      cases e : tyNames r with
      | none => rw [e] at h; cases h
      | some ms =>
        rw [e] at h
        cases h
        obtain ⟨p1, p2⟩ := isiAny_ok ht r2 e
        refine ⟨.cons (.ty n) p1, ?_⟩
        rw [List.map_cons, List.any_cons]
        exact kitAny_cons (b := isT t n) (isT_ok ht hn) (fun z => by rw [p2, z, Bool.false_or]) (fun z => by rw [z, Bool.true_or])
    · cases h
theorem adq_isiT : AdqN K (fun xs H Q => ∃ (x : V) (tp : Addr) (cs : List V) (t : Value) (us : List Value) (b : Bool), xs = [x, .ref tp] ∧ SqT K H tp cs ∧ Paired ClsV cs us ∧ TyX K H x t ∧ PySem.W.kitAny K t us = some b ∧ Q (.bl b) H) oIsiT := fun F cs H xs ds P Q s r ho pe => by
  unfold oIsiT at ho
  split at ho
  · split at ho
    · rename_i t ns e1 e2
      cases r with
      | cons r1 r2 =>
        cases r2 with
        | cons r2 r3 =>
          cases r3
          cases r2 with
          | tup h r =>
            obtain ⟨p1, p2⟩ := isiAny_ok e1 r e2
            exact ⟨_, _, _, _, _, _, rfl, ex_t pur_le h, p1, tyX_of r1 e1, p2, pe H cs _ _ s (.bl _) ho⟩
    · exact ho.elim
  · exact ho.elim
theorem call_isiD : CallR X (.builtin "isinstance") (fun xs H Q => ∃ (x : V) (tp : Addr) (cs : List V) (t : Value) (us : List Value) (b : Bool), xs = [x, .ref tp] ∧ SqT X.K H tp cs ∧ Paired ClsV cs us ∧ TyX X.K H x t ∧ PySem.W.kitAny X.K t us = some b ∧ Q (.bl b) H) := by
  intro pins s σ H xs us Q I r h
  obtain ⟨x, tp, cs, t, ws, b, rfl, hT, k, ty, e, q⟩ := h
  obtain ⟨u1, u2, rfl, r1, r2⟩ := vals2 r
  cases (show u2 = Value.ref tp from r2)
  obtain ⟨P, Z, p, hx⟩ := kit_of I r1 ty
  obtain ⟨its, rv, ⟨o, h1, h2, n, h3⟩, _⟩ := I.tuple hT
  have e3 := ClsV.all k rv
  subst e3
  obtain ⟨oc, od, dt, sl⟩ := o
  simp only at h2 h3
  subst h2 h3
  exact PySem.W.kia_tup Z I.kIn p h1 e hx fun tk => ⟨.bl b, H, I.tok tk, rfl, q⟩
def blsOf : List D → Option (List Bool)
  | [] => some []
  | .bl i :: r => (blsOf r).map (i :: ·)
  | _ => none
theorem blsOf_map (ns : List Bool) : blsOf (ns.map D.bl) = some ns := by
  induction ns with
  | nil => rfl
  | cons n ns ih => rw [List.map_cons]; unfold blsOf; rw [ih]; rfl
theorem blsOf_inv : ∀ {ds : List D} {ns : List Bool}, blsOf ds = some ns → ds = ns.map D.bl
  | [], ns, h => by cases h; rfl
  | d :: r, ns, h => by
    cases d <;> try (simp [blsOf] at h; done)
    unfold blsOf at h
    cases e : blsOf r with
    | none => rw [e] at h; cases h
    | some ms => rw [e] at h; cases h; rw [blsOf_inv e]; rfl
def oAll : DOn := fun ds cs P => match ds with
  | [.lst xs] => (match blsOf xs with
    | some bs => P (.bl (bs.all id)) cs
    | none => False)
  | _ => False
theorem adq_all : AdqN K (rAll K) oAll := fun F cs H xs ds P Q s r ho pe => by
  unfold oAll at ho
  split at ho
  · split at ho
    · rename_i ns e
      have e1 := blsOf_inv e
      cases r with
      | cons r1 r2 =>
        cases r2
        cases r1 with
        | lst h r =>
          rw [e1] at r
          have e2 := RepL.bls ns r
          subst e2
          exact ⟨_, ns, rfl, ex_l pur_le h, pe H cs _ _ s (.bl _) ho⟩
    · exact ho.elim
  · exact ho.elim
def oTuple : DOn := fun ds cs P => match ds with
  | [.lst xs] => P (.tup xs) cs
  | [.tup xs] => P (.tup xs) cs
  | _ => False
def oSlT : D → Option Int → Option Int → Cs → DP → Prop := fun x lo hi cs P => match x with
  | .tup xs => P (.tup (cutD xs lo hi)) cs
  | _ => False
def oCatT : DO2 := fun x y cs P => match x, y with
  | .tup xs, .tup ys => xs.length + ys.length ≤ 100000 ∧ P (.tup (xs ++ ys)) cs
  | _, _ => False
theorem yi_zipL {G : Hp} {p q : Addr} {xs ys : List V} {ds es : List D} (h1 : SqL K G p xs) (r1 : RepL K G xs ds) (h2 : SqL K G q ys) (r2 : RepL K G ys es) : YI K (Itz K p q) G (List.zipWith (fun d e => D.tup [d, e]) ds es) where
  go := fun i d e F cs H s => by
    rw [List.getElem?_zipWith] at e
    cases e1 : ds[i]? with
    | none => rw [e1] at e; cases e
    | some x => cases e2 : es[i]? with
      | none => rw [e1, e2] at e; cases e
      | some y =>
        obtain ⟨v, a1, _⟩ := r1.get e1
        obtain ⟨u, a2, _⟩ := r2.get e2
        exact ⟨xs, ys, v, u, ex_l (s.gr.trans pur_le) h1, ex_l (s.gr.trans pur_le) h2, a1, a2⟩
  yld := fun i d e F cs H x H' s hy => by
    obtain ⟨T, v, u, rfl, hT, rfl, k1, k2⟩ := hy
    rw [List.getElem?_zipWith] at e
    cases e1 : ds[i]? with
    | none => rw [e1] at e; cases e
    | some dx => cases e2 : es[i]? with
      | none => rw [e1, e2] at e; cases e
      | some dy =>
        rw [e1, e2] at e
        cases e
        obtain ⟨v', a1, b1⟩ := r1.get e1
        obtain ⟨u', a2, b2⟩ := r2.get e2
        have c1 := k1 xs (ex_l (s.gr.trans pur_le) h1)
        have c2 := k2 ys (ex_l (s.gr.trans pur_le) h2)
        rw [a1] at c1; rw [a2] at c2
        obtain rfl := Option.some.inj c1
        obtain rfl := Option.some.inj c2
        obtain ⟨s2, e3⟩ := s.new (o := .tup [_, _]) hT
        exact ⟨s2, .tup (SqT.of e3) (.cons (b1.mono (s.gr.trans s2.gr)) (.cons (b2.mono (s.gr.trans s2.gr)) .nil))⟩
  stop := fun F cs H s => by
    refine ⟨xs, ys, ex_l (s.gr.trans pur_le) h1, ex_l (s.gr.trans pur_le) h2, ?_⟩
    rw [List.length_zipWith, r1.length, r2.length]; omega
theorem yi_zipT {G : Hp} {p q : Addr} {xs ys : List V} {ds es : List D} (h1 : SqT K G p xs) (r1 : RepL K G xs ds) (h2 : SqT K G q ys) (r2 : RepL K G ys es) : YI K (RZ.ItzT K p q) G (List.zipWith (fun d e => D.tup [d, e]) ds es) where
  go := fun i d e F cs H s => by
    rw [List.getElem?_zipWith] at e
    cases e1 : ds[i]? with
    | none => rw [e1] at e; cases e
    | some x => cases e2 : es[i]? with
      | none => rw [e1, e2] at e; cases e
      | some y =>
        obtain ⟨v, a1, _⟩ := r1.get e1
        obtain ⟨u, a2, _⟩ := r2.get e2
        exact ⟨xs, ys, v, u, ex_t (s.gr.trans pur_le) h1, ex_t (s.gr.trans pur_le) h2, a1, a2⟩
  yld := fun i d e F cs H x H' s hy => by
    obtain ⟨T, v, u, rfl, hT, rfl, k1, k2⟩ := hy
    rw [List.getElem?_zipWith] at e
    cases e1 : ds[i]? with
    | none => rw [e1] at e; cases e
    | some dx => cases e2 : es[i]? with
      | none => rw [e1, e2] at e; cases e
      | some dy =>
        rw [e1, e2] at e
        cases e
        obtain ⟨v', a1, b1⟩ := r1.get e1
        obtain ⟨u', a2, b2⟩ := r2.get e2
        have c1 := k1 xs (ex_t (s.gr.trans pur_le) h1)
        have c2 := k2 ys (ex_t (s.gr.trans pur_le) h2)
        rw [a1] at c1; rw [a2] at c2
        obtain rfl := Option.some.inj c1
        obtain rfl := Option.some.inj c2
        obtain ⟨s2, e3⟩ := s.new (o := .tup [_, _]) hT
        exact ⟨s2, .tup (SqT.of e3) (.cons (b1.mono (s.gr.trans s2.gr)) (.cons (b2.mono (s.gr.trans s2.gr)) .nil))⟩
  stop := fun F cs H s => by
    refine ⟨xs, ys, ex_t (s.gr.trans pur_le) h1, ex_t (s.gr.trans pur_le) h2, ?_⟩
    rw [List.length_zipWith, r1.length, r2.length]; omega
def iZp (w : WA) : WI := fun ρ cs P Z => w ρ cs (fun ds cs1 => match ds with
  | [.lst xs, .lst ys] => P (List.zipWith (fun d e => D.tup [d, e]) xs ys) cs1
  | [.tup xs, .tup ys] => P (List.zipWith (fun d e => D.tup [d, e]) xs ys) cs1
  | _ => False) Z
theorem zp_inv {ds : List D} {g : List D → List D → Prop} (h : (match ds with | [D.lst xs, D.lst ys] => g xs ys | [D.tup xs, D.tup ys] => g xs ys | _ => False)) : ∃ xs ys, (ds = [.lst xs, .lst ys] ∨ ds = [.tup xs, .tup ys]) ∧ g xs ys := by
  match ds, h with
  | [D.lst xs, D.lst ys], h => exact ⟨xs, ys, .inl rfl, h⟩
  | [D.tup xs, D.tup ys], h => exact ⟨xs, ys, .inr rfl, h⟩
theorem di_zip {e2 : Expr} {p tpos : Pos} {elts : List Expr} {kk : Nat} (hg : Gl X "zip") (hm : X.mg "zip" = none) (ha : DA X W [e, e2] w)
    (hs : starEach [e, e2] X.env = (false, eval e X.env) :: starEach [e2] X.env := by rfl) (hpl : (backTo pos (starEach [e2] X.env)).any (·.1) = false := by rfl) :
    DI X W (.Tuple elts kk tpos) (.Call (.Name "zip" p) [e, e2] [] pos) (iZp w) := PI.imp (RZ.pi_zipA hg hm ha hs hpl) fun σ H R hq => by
  obtain ⟨F, cs, ρ, P, Z, s, re, hw, pe, px⟩ := hq
  refine ⟨F, cs, ρ, _, Z, s, re, hw, fun H1 cs1 vs ds s1 r1 l1 h1 => ?_, px⟩
  obtain ⟨xs, ys, e1, h⟩ := zp_inv h1
  rcases e1 with e1 | e1
  · subst e1
    cases r1 with
    | cons r1 r2 =>
      cases r2 with
      | cons r2 r3 =>
        cases r3
        cases r1 with
        | lst a1 b1 =>
          cases r2 with
          | lst a2 b2 => exact ⟨_, _, _, _, rfl, .inl ⟨ex_l pur_le a1, ex_l pur_le a2, pe H1 cs1 _ _ s1 (yi_zipL a1 b1 a2 b2) h⟩⟩
  · subst e1
    cases r1 with
    | cons r1 r2 =>
      cases r2 with
      | cons r2 r3 =>
        cases r3
        cases r1 with
        | tup a1 b1 =>
          cases r2 with
          | tup a2 b2 => exact ⟨_, _, _, _, rfl, .inr ⟨ex_t pur_le a1, ex_t pur_le a2, pe H1 cs1 _ _ s1 (yi_zipT a1 b1 a2 b2) h⟩⟩
end
abbrev W0 : WX := fun _ _ _ _ => False
abbrev Z0 : XZ := fun _ _ => False
section
variable {X : Cx} {W : WX} {K : PySem.W.Frag} {σ : L2.St} {H : Hp}
def compW (g : WG) (wt : WT) (we : DL.WE) : List D → DL.Env → Cs → List D → (List D → Cs → Prop) → Prop
  | [], _, cs, acc, P => P acc cs
  | d :: r, ρ, cs, acc, P => g d ρ fun ρ1 => wt ρ1 cs (fun k cs1 => (k = true → we ρ1 cs1 (fun y cs2 => compW g wt we r ρ cs2 (acc ++ [y]) P) Z0) ∧ (k = false → compW g wt we r ρ cs1 acc P)) Z0
def wipeD (ρ : DL.Env) : List Nat → DL.Env
  | [] => ρ
  | v :: vs => (wipeD ρ vs).set v none
def wComp (wi : WI) (g : WG) (wt : WT) (we : DL.WE) (vs : List Nat) : DL.WE := fun ρ cs P Z => wi ρ cs (fun xs cs1 => xs.length ≤ 100000 ∧ compW g wt we xs (wipeD ρ vs) cs1 [] (fun ds cs2 => P (.lst ds) cs2)) Z
def wYes : WT := fun _ cs P _ => P true cs
theorem yes_ok {Q : Bool → Hp → Prop} (h : lT K W wYes σ H Q) : tYes σ H Q := by
  obtain ⟨F, cs, ρ, P, Z, s, re, hw, pe, px⟩ := h
  exact pe H cs true s hw
theorem PTs.imp {X : Cx} {ifs : List Expr} {t t' : TT} (h : PTs X ifs t) (i : ∀ σ H Q, t' σ H Q → t σ H Q) : PTs X ifs t' := ⟨fun pins s σ H Q I q => h.run pins s σ H Q I (i σ H Q q)⟩
theorem dts_nil : PTs X [] (lT X.K W wYes) := PTs.imp pts_nil fun _ _ _ h => yes_ok h
theorem RepE.setN {G : Hp} {σ : L2.St} {ρ : DL.Env} (r : RepE K G σ ρ) : ∀ i, RepE K G (σ.set i none) (ρ.set i none) := fun i => by
  induction r generalizing i with
  | nil => exact .nil
  | cons h r ih => cases i with
    | zero => exact .cons .skip r
    | succ i => exact .cons h (ih i)
theorem RepE.wipe {G : Hp} {σ : L2.St} {ρ : DL.Env} (r : RepE K G σ ρ) : ∀ vs, RepE K G (L2.wipe σ vs) (wipeD ρ vs)
  | [] => r
  | v :: vs => (RepE.wipe r vs).setN v
theorem set_none_comm (σ : L2.St) (i j : Nat) (v : Option V) (h : i ≠ j) : (σ.set i v).set j none = (σ.set j none).set i v := (List.set_comm v none h)
theorem wipe_set {σ : L2.St} {i : Nat} {v : Option V} : ∀ {vs : List Nat}, i ∈ vs → L2.wipe (σ.set i v) vs = L2.wipe σ vs
  | [], h => by cases h
  | a :: vs, h => by
    unfold L2.wipe
    by_cases hi : i ∈ vs
    · rw [wipe_set hi]
    · have e : i = a := by
        rcases List.mem_cons.mp h with z | z
        · exact z
        · exact absurd z hi
      subst e
      have key : ∀ (vs : List Nat), i ∉ vs → L2.wipe (σ.set i v) vs = (L2.wipe σ vs).set i v := by
        intro vs
        induction vs with
        | nil => intro _; rfl
        | cons b bs ih =>
          intro hb
          have h1 : i ≠ b := fun z => hb (z ▸ List.mem_cons_self ..)
          unfold L2.wipe
          rw [ih fun z => hb (List.mem_cons_of_mem _ z), set_none_comm _ _ _ _ h1]
      rw [key vs hi, List.set_set]
theorem wipe_wipe {σ : L2.St} : ∀ {vs : List Nat}, L2.wipe (L2.wipe σ vs) vs = L2.wipe σ vs := by
  intro vs
  have key : ∀ (us : List Nat), (∀ u ∈ us, u ∈ vs) → L2.wipe (L2.wipe σ us) vs = L2.wipe σ vs := by
    intro us
    induction us with
    | nil => intro _; rfl
    | cons a us ih =>
      intro h
      have e : L2.wipe σ (a :: us) = (L2.wipe σ us).set a none := rfl
      rw [e, wipe_set (h a (List.mem_cons_self ..)), ih fun u hu => h u (List.mem_cons_of_mem _ hu)]
  exact key vs fun _ h => h
/-- a thing of ours is put aside -/
theorem ft_upd {F : Hp} {p : Addr} {o : HO} (h : ∀ a xs, F a ≠ some (.tup xs)) (ho : ∀ xs, o ≠ .tup xs) : ∀ a xs, upd F p o a ≠ some (.tup xs) := fun a xs e => by
  by_cases hb : a = p
  · rw [hb, upd_same] at e; exact ho xs (Option.some.inj e)
  · rw [upd_ne hb] at e; exact h a xs e
theorem ft_back {F : Hp} {p : Addr} {o : HO} (h : ∀ a xs, upd F p o a ≠ some (.tup xs)) (hF : F p = none) : ∀ a xs, F a ≠ some (.tup xs) := fun a xs e => by
  refine h a xs ?_
  rw [upd_ne (fun z => by rw [z, hF] at e; cases e)]; exact e
theorem Sta.aside {F G0 : Hp} {cs : Cs} {p : Addr} {o : HO} (s : Sta K F G0 cs H) (h : H p = none) (ho : ∀ xs, o ≠ .tup xs := by intro _ z; cases z) : Sta K (upd F p o) (pur F cs H) cs (upd H p o) := by
  obtain ⟨hF, hc⟩ := s.notin h
  have g : Ex (pur F cs H) (pur (upd F p o) cs (upd H p o)) := fun b u e => by
    obtain ⟨e1, e2, e3⟩ := pur_of e
    have hb : b ≠ p := ne_of_none e1 h
    rw [pur_at (by rw [upd_ne hb]; exact e2) e3, upd_ne hb]; exact e1
  refine ⟨fun b u e => ?_, g, s.nd, fun a ha => ?_, fun a m hm => ?_, ft_upd s.ft ho⟩
  · by_cases hb : b = p
    · subst hb; rw [upd_same] at e ⊢; exact e
    · rw [upd_ne hb] at e ⊢; exact s.fr b u e
  · rw [upd_ne (show a ≠ p from fun z => hc (by rw [← z]; exact ha))]; exact s.ap a ha
  · obtain ⟨u, hu, q⟩ := s.ow a m hm
    exact ⟨u, by rw [upd_ne (ne_of_none hu h)]; exact hu, q.mono g⟩
theorem Sta.turn {F G0 : Hp} {cs : Cs} {p : Addr} {o o' : HO} (s : Sta K (upd F p o) G0 cs H) (hF : F p = none) (ho : ∀ xs, o' ≠ .tup xs := by intro _ z; cases z) : Sta K (upd F p o') G0 cs (upd H p o') ∧ pur (upd F p o') cs (upd H p o') = pur (upd F p o) cs H := by
  have e : pur (upd F p o') cs (upd H p o') = pur (upd F p o) cs H := by
    funext b
    unfold pur
    by_cases hb : b = p
    · subst hb
      rw [if_pos (.inl (by rw [upd_same]; rfl)), if_pos (.inl (by rw [upd_same]; rfl))]
    · rw [upd_ne hb, upd_ne hb, upd_ne hb]
  refine ⟨⟨fun b u h => ?_, by rw [e]; exact s.gr, s.nd, fun a ha => ?_, fun a m hm => ?_, ft_upd (ft_back s.ft hF) ho⟩, e⟩
  · by_cases hb : b = p
    · subst hb; rw [upd_same] at h ⊢; exact h
    · rw [upd_ne hb] at h ⊢
      exact s.fr b u (by rw [upd_ne hb]; exact h)
  · have := s.ap a ha
    by_cases hb : a = p
    · subst hb; rw [upd_same] at this; cases this
    · rw [upd_ne hb] at this ⊢; exact this
  · obtain ⟨u, hu, q⟩ := s.ow a m hm
    have ha := s.ap a (List.mem_map.mpr ⟨(a, m), hm, rfl⟩)
    have hb : a ≠ p := fun z => by subst z; rw [upd_same] at ha; cases ha
    exact ⟨u, by rw [upd_ne hb]; exact hu, by rw [e]; exact q⟩
/-- .. and is data again -/
theorem Sta.back {F G0 : Hp} {cs : Cs} {p : Addr} {o : HO} (s : Sta K (upd F p o) G0 cs H) (hF : F p = none) : Sta K F G0 cs H ∧ Ex (pur (upd F p o) cs H) (pur F cs H) ∧ pur F cs H p = some o := by
  have hc : p ∉ adr cs := fun z => by
    have := s.ap p z
    rw [upd_same] at this; cases this
  have g : Ex (pur (upd F p o) cs H) (pur F cs H) := fun b u e => by
    obtain ⟨e1, e2, e3⟩ := pur_of e
    by_cases hb : b = p
    · subst hb; rw [upd_same] at e2; cases e2
    · rw [upd_ne hb] at e2
      rw [pur_at e2 e3]; exact e1
  refine ⟨⟨fun b u e => ?_, s.gr.trans g, s.nd, fun a ha => ?_, fun a m hm => ?_, ft_back s.ft hF⟩, g, ?_⟩
  · refine s.fr b u ?_
    rw [upd_ne (fun z => by rw [z, hF] at e; cases e)]; exact e
  · have := s.ap a ha
    by_cases hb : a = p
    · exact absurd (hb ▸ ha) hc
    · rw [upd_ne hb] at this; exact this
  · obtain ⟨u, hu, q⟩ := s.ow a m hm
    exact ⟨u, hu, q.mono g⟩
  · rw [pur_at hF hc]
    exact s.fr p o upd_same
/-- how a target of a comprehension binds: its slots alone -/
def GOk (K : PySem.W.Frag) (g : TG) (gd : WG) (vs : List Nat) : Prop := ∀ F cs H σ ρ v d k (Q : L2.St → Hp → Prop), Sta K F (pur F cs H) cs H → RepE K (pur F cs H) σ ρ → Rep K (pur F cs H) v d → L2.wipe σ vs = σ → gd d ρ k →
  (∀ σ' ρ', L2.wipe σ' vs = σ → RepE K (pur F cs H) σ' ρ' → k ρ' → Q σ' H) → g v σ H Q
theorem gok_name {i : Nat} {vs : List Nat} (h : i ∈ vs) : GOk K (gName i) (gN i) vs := fun F cs H σ ρ v d k Q s re r hw hk q => by
  refine q _ _ ?_ (re.set r i) hk
  rw [wipe_set h, hw]
theorem gok_two {i j : Nat} {vs : List Nat} (hi : i ∈ vs) (hj : j ∈ vs) : GOk K (gTup K 2 (gCons (gName i) (gCons (gName j) gNil))) (gT 2 (gCn (gN i) (gCn (gN j) gNl))) vs := fun F cs H σ ρ v d k Q s re r hw hk q => by
  cases d <;> try exact hk.elim
  rename_i ds
  obtain ⟨hl, hk⟩ := hk
  cases r with
  | tup h r =>
    obtain ⟨d1, d2, rfl⟩ : ∃ d1 d2, ds = [d1, d2] := by
      cases ds with
      | nil => cases hl
      | cons d1 ds => cases ds with
        | nil => cases hl
        | cons d2 ds => cases ds with
          | nil => exact ⟨d1, d2, rfl⟩
          | cons _ _ => simp at hl
    cases r with
    | cons r1 r =>
      cases r with
      | cons r2 r =>
        cases r
        exact ⟨_, _, rfl, ex_t pur_le h, rfl, _, _, rfl, _, _, rfl, rfl, q _ _ (by rw [wipe_set hj, wipe_set hi, hw]) ((re.set r1 i).set r2 j) hk⟩
theorem lc_ok {wi : WI} {g : TG} {gd : WG} {wt : WT} {we : DL.WE} {vs : List Nat} (gk : GOk K g gd vs) {Q : VK} : lE K W (wComp wi gd wt we vs) σ H Q → tLc (lI K W wi) g (lT K W0 wt) (lE K W0 we) vs σ H Q := by
  rintro ⟨F, cs, ρ, P, Z, s, re, hw, pe, px⟩
  refine ⟨F, cs, ρ, _, Z, s, re, hw, fun H1 cs1 J xs s1 yi h1 => ?_, px⟩
  intro D hD
  obtain ⟨hlen, h1⟩ := h1
  have hFD : F D = none := s1.fr.back hD
  have reW : RepE K (pur F cs1 H1) (L2.wipe σ vs) (wipeD ρ vs) := (re.mono s1.gr).wipe vs
  refine ⟨fun i m H' => i ≤ xs.length ∧ m = xs.length - i ∧ ∃ cs' acc vacc, Sta K (upd F D (.lst vacc)) (pur F cs1 H1) cs' H' ∧ RepL K (pur (upd F D (.lst vacc)) cs' H') vacc acc ∧ acc.length ≤ i ∧ compW gd wt we (xs.drop i) (wipeD ρ vs) cs' acc (fun ds cs2 => P (.lst ds) cs2),
    ⟨xs.length, Nat.zero_le _, rfl, cs1, [], [], s1.aside hD, .nil, Nat.le_refl _, h1⟩, ?_⟩
  rintro i m H2 ⟨hi, rfl, cs2, acc, vacc, s2, ra, hla, h2⟩
  cases e : xs.drop i with
  | nil =>
    have hl : xs.length ≤ i := by
      have z := congrArg List.length e
      rw [List.length_drop] at z
      have z' : xs.length - i = 0 := z
      omega
    have hie : i = xs.length := by omega
    rw [e] at h2
    obtain ⟨s3, g3, e3⟩ := s2.back hFD
    refine .inl ⟨by rw [hie]; exact yi.stop _ cs2 H2 s2, pe H2 cs2 _ _ (s3.from_ s1.gr) (.lst (SqL.of e3) (ra.mono g3)) h2⟩
  | cons d r =>
    obtain ⟨e1, e2⟩ := drop_cons e
    have hlt : i < xs.length := (List.getElem?_eq_some_iff.mp e1).1
    rw [e] at h2
    refine .inr ⟨yi.go i d e1 _ cs2 H2 s2, fun H' => ∃ cs' acc vacc, Sta K (upd F D (.lst vacc)) (pur F cs1 H1) cs' H' ∧ RepL K (pur (upd F D (.lst vacc)) cs' H') vacc acc ∧ acc.length ≤ i + 1 ∧ compW gd wt we r (wipeD ρ vs) cs' acc (fun ds cs2 => P (.lst ds) cs2), ?_, ?_⟩
    · rintro H' ⟨cs', acc', vacc', s', ra', hl', h'⟩
      exact ⟨xs.length - (i + 1), by omega, by omega, rfl, cs', acc', vacc', s', ra', hl', by rw [e2]; exact h'⟩
    · intro x H3 hy
      obtain ⟨s3, r3⟩ := yi.yld i d e1 _ cs2 H2 x H3 s2 hy
      refine gk _ cs2 H3 _ (wipeD ρ vs) x d _ _ s3.self (reW.mono (s2.gr.trans s3.gr)) r3 wipe_wipe h2 fun σ4 ρ4 hw4 re4 h4 => ⟨hw4.trans rfl, ?_⟩
      refine ⟨_, cs2, ρ4, _, Z0, s3.self, re4, h4, fun H5 cs5 k s5 h5 => ?_, fun _ _ _ _ _ _ z => z⟩
      cases k with
      | false => exact iteF ⟨cs5, acc, vacc, s5.from_ (s2.gr.trans s3.gr), ra.mono (s3.gr.trans s5.gr), Nat.le_succ_of_le hla, h5.2 rfl⟩
      | true =>
        refine iteT ⟨_, cs5, ρ4, _, Z0, s5.self, re4.mono s5.gr, h5.1 rfl, fun H6 cs6 y dy s6 r6 h6 => ?_, fun _ _ _ _ _ _ z => z⟩
        have g6 := (s2.gr.trans s3.gr).trans (s5.gr.trans s6.gr)
        have s7 := (s6.from_ ((s2.gr.trans s3.gr).trans s5.gr))
        obtain ⟨s8, e8⟩ := s7.turn (o' := .lst (vacc ++ [y])) hFD
        refine ⟨vacc, s6.fr D _ upd_same, ?_, cs6, acc ++ [dy], vacc ++ [y], s8, ?_, by rw [List.length_append]; exact Nat.succ_le_succ hla, h6⟩
        · rw [ra.length]; exact Nat.lt_of_le_of_lt (Nat.le_trans hla hi) (Nat.lt_of_le_of_lt hlen (by decide))
        · rw [e8]
          exact (ra.mono (s3.gr.trans (s5.gr.trans s6.gr))).append (.cons r6 .nil)
variable {elt tg iter : Expr} {ifs : List Expr} {scope : Scope} {own : List (Str × Nat)} {pos : Pos} {wi : WI} {g : TG} {gd : WG} {wt : WT} {we : DL.WE}
theorem d_lc (hc : X.calm = true) (hN : X.N.Nodup) (hi : DI X W tg iter wi) (ok : BlkOk X.N X.env.scope scope own) (gk : GOk X.K g gd (own.map (·.2)))
    (hg : ∀ (s : Shared) (H : Hp) (C : Addr) (cl : List (Str × Addr)) (fp : List Addr), PG (X.blk s H scope (compEnvC scope cl C X.env) fp) tg g)
    (ht : ∀ (s : Shared) (H : Hp) (C : Addr) (cl : List (Str × Addr)) (fp : List Addr), PTs (X.blk s H scope (compEnvC scope cl C X.env) fp) ifs (lT X.K W0 wt))
    (he : ∀ (s : Shared) (H : Hp) (C : Addr) (cl : List (Str × Addr)) (fp : List Addr), DE (X.blk s H scope (compEnvC scope cl C X.env) fp) W0 elt we) (hs : ∀ x, foldedSetIterable iter X.env x = pure x := by intro _; rfl) :
    DE X W (.ListComp elt [⟨tg, iter, ifs, 0⟩] scope pos) (wComp wi gd wt we (own.map (·.2))) := PE.imp (pe_lc hc hN hi ok hg ht he hs) fun _ _ _ h => lc_ok gk h
end
section
variable {ρ : DL.Env} {cs : Cs} {P : DP} {Z : XZ} {wa wb we : DL.WE} {w : WA} {wt : WT}
theorem r_isi {d : D} {n : String} {k : Bool} (e : isiD d n = some k) (h : P (.bl k) cs) : oIsi [d, .opq (.ty n)] cs P := by
  unfold oIsi; simp only [e]; exact h
theorem r_isiT {d : D} {n : String} (e : isiD d n = some true) (h : P (.bl true) cs) : oIsi [d, .opq (.ty n)] cs P := r_isi e h
theorem r_isiF {d : D} {n : String} (e : isiD d n = some false) (h : P (.bl false) cs) : oIsi [d, .opq (.ty n)] cs P := r_isi e h
theorem r_isiTT {d : D} {ts : List D} {t : String} {ns : List String} (e : tyS d = some t) (e2 : tyNames ts = some ns) (e3 : (ns.any fun n => isT t n) = true) (h : P (.bl true) cs) : oIsiT [d, .tup ts] cs P := by
  unfold oIsiT; simp only [e, e2, e3]; exact h
theorem r_isiTF {d : D} {ts : List D} {t : String} {ns : List String} (e : tyS d = some t) (e2 : tyNames ts = some ns) (e3 : (ns.any fun n => isT t n) = false) (h : P (.bl false) cs) : oIsiT [d, .tup ts] cs P := by
  unfold oIsiT; simp only [e, e2, e3]; exact h
theorem r_all {xs : List D} {ns : List Bool} (e : blsOf xs = some ns) (h : P (.bl (ns.all id)) cs) : oAll [.lst xs] cs P := by
  unfold oAll; simp only [e]; exact h
theorem r_tupleL {xs : List D} (h : P (.tup xs) cs) : oTuple [.lst xs] cs P := h
theorem r_tupleT {xs : List D} (h : P (.tup xs) cs) : oTuple [.tup xs] cs P := h
theorem r_catT {xs ys : List D} (hl : xs.length + ys.length ≤ 100000) (h : P (.tup (xs ++ ys)) cs) : oCatT (.tup xs) (.tup ys) cs P := ⟨hl, h⟩
theorem r_sl {o : D → Option Int → Option Int → Cs → DP → Prop} {wl wh : WO} (h : we ρ cs (fun x cs1 => wl ρ cs1 (fun l cs2 => wh ρ cs2 (fun u cs3 => o x l u cs3 P) Z) Z) Z) : wSl o we wl wh ρ cs P Z := h
theorem r_noPart {R : Option Int → Cs → Prop} (h : R none cs) : wNoPart ρ cs R Z := h
theorem r_part {R : Option Int → Cs → Prop} (h : we ρ cs (fun x cs1 => match x with | .int i => R (some i) cs1 | _ => False) Z) : wPart we ρ cs R Z := h
theorem r_slL {xs : List D} {lo hi : Option Int} (h : P (.lst (DL.cutD xs lo hi)) cs) : oSlL (.lst xs) lo hi cs P := h
theorem r_slT {xs : List D} {lo hi : Option Int} (h : P (.tup (DL.cutD xs lo hi)) cs) : oSlT (.tup xs) lo hi cs P := h
theorem r_zipL {xs ys : List D} {R : List D → Cs → Prop} (h : w ρ cs (fun ds cs1 => match ds with | [.lst xs, .lst ys] => R (List.zipWith (fun d e => D.tup [d, e]) xs ys) cs1 | [.tup xs, .tup ys] => R (List.zipWith (fun d e => D.tup [d, e]) xs ys) cs1 | _ => False) Z) : iZp w ρ cs R Z := h
theorem r_yes {R : Bool → Cs → Prop} (h : R true cs) : wYes ρ cs R Z := h
theorem r_comp {wi : WI} {g : WG} {vs : List Nat} (h : wi ρ cs (fun xs cs1 => xs.length ≤ 100000 ∧ compW g wt we xs (wipeD ρ vs) cs1 [] (fun ds cs2 => P (.lst ds) cs2)) Z) : wComp wi g wt we vs ρ cs P Z := h
/-- .. by an invariant: the place, what is made so far, the things that change -/
theorem r_compI {g : WG} {R : List D → Cs → Prop} (I : Nat → List D → Cs → Prop) : ∀ (xs acc : List D) (k : Nat) {cs : Cs}, I k acc cs →
    (∀ i d acc cs (N : List D → Cs → Prop), xs[i]? = some d → I (k + i) acc cs → (∀ acc' cs', I (k + i + 1) acc' cs' → N acc' cs') → g d ρ fun ρ1 => wt ρ1 cs (fun b cs1 => (b = true → we ρ1 cs1 (fun y cs2 => N (acc ++ [y]) cs2) Z0) ∧ (b = false → N acc cs1)) Z0) →
    (∀ acc cs, I (k + xs.length) acc cs → R acc cs) → compW g wt we xs ρ cs acc R
  | [], acc, k, cs, h0, hs, hd => hd acc cs h0
  | d :: r, acc, k, cs, h0, hs, hd => by
    refine hs 0 d acc cs (fun acc' cs' => compW g wt we r ρ cs' acc' R) rfl h0 fun acc' cs' h1 => r_compI I r acc' (k + 1) h1 (fun i d acc cs N e hi hn => ?_) (fun acc cs h => ?_)
    · have e1 : k + (i + 1) = k + 1 + i := by omega
      refine hs (i + 1) d acc cs N e (by rw [e1]; exact hi) fun acc' cs' hh => hn acc' cs' (by rw [← e1]; exact hh)
    · refine hd acc cs ?_
      have e1 : k + (d :: r).length = k + 1 + r.length := by rw [List.length_cons]; omega
      rw [e1]; exact h
theorem r_comp0 {g : WG} {R : List D → Cs → Prop} (I : Nat → List D → Cs → Prop) {xs : List D} (h0 : I 0 [] cs)
    (hs : ∀ i d acc cs (N : List D → Cs → Prop), xs[i]? = some d → I i acc cs → (∀ acc' cs', I (i + 1) acc' cs' → N acc' cs') → g d ρ fun ρ1 => wt ρ1 cs (fun b cs1 => (b = true → we ρ1 cs1 (fun y cs2 => N (acc ++ [y]) cs2) Z0) ∧ (b = false → N acc cs1)) Z0)
    (hd : ∀ acc cs, I xs.length acc cs → R acc cs) : compW g wt we xs ρ cs [] R :=
  r_compI I xs [] 0 h0 (fun i d acc cs N e hi hn => hs i d acc cs N e (by rw [Nat.zero_add] at hi; exact hi) (by rw [Nat.zero_add] at hn; exact hn)) (fun acc cs h => hd acc cs (by rw [Nat.zero_add] at h; exact h))
theorem take_more {α : Type} {l : List α} {i : Nat} {x : α} (h : l[i]? = some x) : l.take (i + 1) = l.take i ++ [x] := by
  obtain ⟨h1, h2⟩ := List.getElem?_eq_some_iff.mp h
  rw [List.take_succ, h]
  rfl
/-- each item that keeps p makes its f; nothing else changes -/
theorem r_compFM {g : WG} {R : List D → Cs → Prop} (p : D → Bool) (f : D → D) {xs : List D}
    (hs : ∀ d (N : DP) (N' : Cs → Prop), d ∈ xs → (p d = true → N (f d) cs) → (p d = false → N' cs) → g d ρ fun ρ1 => wt ρ1 cs (fun b cs1 => (b = true → we ρ1 cs1 N Z0) ∧ (b = false → N' cs1)) Z0)
    (hd : R ((xs.filter p).map f) cs) : compW g wt we xs ρ cs [] R := by
  refine r_comp0 (fun i acc cs' => acc = ((xs.take i).filter p).map f ∧ cs' = cs) ⟨rfl, rfl⟩ ?_ ?_
  · rintro i d acc cs' N e ⟨rfl, rfl⟩ hN
    refine hs d _ _ (List.mem_of_getElem? e) (fun h => hN _ _ ⟨?_, rfl⟩) (fun h => hN _ _ ⟨?_, rfl⟩)
    · rw [take_more e, List.filter_append, List.map_append, List.filter_cons_of_pos h]; rfl
    · rw [take_more e, List.filter_append, List.filter_cons_of_neg (by rw [h]; decide), List.filter_nil, List.append_nil]
  · rintro acc cs' ⟨rfl, rfl⟩
    rw [List.take_length]
    exact hd
theorem r_compM {g : WG} {R : List D → Cs → Prop} (f : D → D) {xs : List D}
    (hs : ∀ d (N : DP) (N' : Cs → Prop), d ∈ xs → N (f d) cs → g d ρ fun ρ1 => wt ρ1 cs (fun b cs1 => (b = true → we ρ1 cs1 N Z0) ∧ (b = false → N' cs1)) Z0)
    (hd : R (xs.map f) cs) : compW g wt we xs ρ cs [] R := by
  refine r_compFM (fun _ => true) f (fun d N N' h h1 h2 => hs d N N' h (h1 rfl)) ?_
  rw [List.filter_eq_self.mpr fun _ _ => rfl]
  exact hd
end
end DL
namespace DL
open PySem PySem.Spec PyProof.Rows L2
/-- what the bag holds: the script's copy, how many were taken, what is left of one, a number that goes round, a count -/
def BagOk (m : MO) : Prop := ∃ (cells : List Int) (k : Nat) (rest seed cnt : Int), m = .lst [.lst (cells.map D.int), .int (k : Int), .int rest, .int seed, .int cnt] ∧ 0 ≤ rest ∧ 0 ≤ seed ∧ seed < 2147483629
def BagIn (p : Addr) (cs : Cs) : Prop := ∃ b, look p cs = some b ∧ BagOk b
theorem BagIn.put {p : Addr} {cs : Cs} {b : MO} (h : BagIn p cs) (hb : BagOk b) : BagIn p (put p b cs) := by
  obtain ⟨b0, e, _⟩ := h
  exact ⟨b, look_put e, hb⟩
structure BagStep (p : Addr) (cs cs' : Cs) : Prop where
  bag : BagIn p cs'
  eq : ∃ b, cs' = put p b cs
theorem BagStep.trans {p : Addr} {c0 c1 c2 : Cs} (a : BagStep p c0 c1) (b : BagStep p c1 c2) : BagStep p c0 c2 := by
  obtain ⟨b1, e1⟩ := a.eq
  obtain ⟨b2, e2⟩ := b.eq
  exact ⟨b.bag, b2, by rw [e2, e1, put_put]⟩
theorem BagStep.refl {p : Addr} {cs : Cs} (h : BagIn p cs) : BagStep p cs cs := by
  obtain ⟨b, e, _⟩ := id h
  exact ⟨h, b, (put_look e).symm⟩
theorem BagStep.look {p q : Addr} {cs cs' : Cs} (a : BagStep p cs cs') (h : q ≠ p) : look q cs' = look q cs := by
  obtain ⟨b, e⟩ := a.eq
  rw [e, look_put_ne h]
mutual
/-- known data: nothing opaque, no dict with tuple keys -/
def knD : D → Bool
  | .tup xs => knL xs
  | .lst xs => knL xs
  | .opq _ => false
  | .dct _ => false
  | .ins _ _ => false
  | .xcp _ _ _ _ => false
  | _ => true
def knL : List D → Bool
  | [] => true
  | d :: ds => knD d && knL ds
end
theorem knL_mem : ∀ {ds : List D} {d : D}, knL ds = true → d ∈ ds → knD d = true
  | [], d, _, h => by cases h
  | e :: ds, d, hk, h => by
    simp only [knL, Bool.and_eq_true] at hk
    rcases List.mem_cons.mp h with z | z
    · rw [z]; exact hk.1
    · exact knL_mem hk.2 z
def wholeD : D → Bool
  | .int _ => true
  | _ => false
def partD : D → Bool
  | .tup [.int a, .int b] => decide (0 < b) && decide (Nat.gcd a.natAbs b.natAbs = 1)
  | _ => false
theorem partD_dR (r : Rat) : partD (dR r) = true := by
  have h1 := den_pos r
  have h2 : Nat.gcd r.num.natAbs (r.den : Int).natAbs = 1 := by rw [Int.natAbs_natCast]; exact r.reduced
  show (decide _ && decide _) = true
  rw [decide_eq_true h1, decide_eq_true h2]; rfl
theorem partD_len {xs : List D} (h : xs.length ≠ 2) : partD (.tup xs) = false := by
  unfold partD
  split
  · rename_i e
    cases e
    exact absurd rfl h
  · rfl
def dB (l t w h : Rat) : D := .tup [dR l, dR t, dR w, dR h]
theorem partD_inv {d : D} (h : partD d = true) : ∃ r : Rat, d = dR r := by
  unfold partD at h
  split at h
  · rename_i a b
    rw [Bool.and_eq_true] at h
    have h1 := of_decide_eq_true h.1
    have h2 := of_decide_eq_true h.2
    refine ⟨⟨a, b.toNat, by omega, ?_⟩, ?_⟩
    · have e : b.toNat = b.natAbs := by omega
      rw [e]; exact h2
    · unfold dR
      have e : ((b.toNat : Nat) : Int) = b := by omega
      rw [e]
  · cases h
theorem p1000 {n : Nat} (h : n ≤ 20) : (1000 : Int) ^ n ≤ 1000 ^ 20 := by
  exact_mod_cast Nat.pow_le_pow_right (n := 1000) (by decide) h
def isNonD : D → Bool
  | .non => true
  | .opq v => decide (v = .non)
  | _ => false
def oIsN : DO2 := fun x y cs P => match y with
  | .non => P (.bl (isNonD x)) cs
  | _ => False
def oNotN : DO2 := fun x y cs P => match y with
  | .non => P (.bl (!isNonD x)) cs
  | _ => False
section
variable {X : Cx} {W : WX} {K : PySem.W.Frag} {pos : Pos} {a b : Expr} {wa wb : DL.WE}
theorem isNon_ok {G : Hp} {x : V} {d : D} (r : Rep K G x d) : decide (x = .non) = isNonD d := by
  cases r <;> first | rfl | simp [isNonD]
theorem adq_isN : Adq K (fun x y H Q => y = .non ∧ Q (.bl (decide (x = .non))) H) oIsN := fun F cs H x y dx dy P Q s rx ry ho pe => by
  cases dy <;> try exact ho.elim
  cases ry
  exact ⟨rfl, by rw [isNon_ok rx]; exact pe H cs _ _ s (.bl _) ho⟩
theorem d_is (ha : DE X W a wa) (hb : DE X W b wb) : DE X W (.Compare a [.Is] [b] pos) (wOp oIsN wa wb) := d_cmp op_isN adq_isN ha hb (nomark _)
theorem dt_is (ha : DE X W a wa) (hb : DE X W b wb) : DT X W (.Compare a [.Is] [b] pos) (wTest (wOp oIsN wa wb)) := dt_cmp op_isN adq_isN ha hb (nomark _)
end
section
variable {cs : Cs} {P : DP} {d : D}
theorem r_isN (h : P (.bl (isNonD d)) cs) : oIsN d .non cs P := h
theorem r_notN (h : P (.bl (!isNonD d)) cs) : oNotN d .non cs P := h
theorem r_eqBs {k : Bool} (h : P (.bl true) cs) : oEq (.bl k) (.bl k) cs P := r_eqB (by rw [beq_self_eq_true]; exact h)
theorem r_neBs {k : Bool} (h : P (.bl false) cs) : oNe (.bl k) (.bl k) cs P := r_neB (by rw [beq_self_eq_true]; exact h)
end
def oIsB : DO2 := fun x y cs P => match x, y with
  | .bl a, .bl b => P (.bl (decide (a = b))) cs
  | _, _ => False
def oNotB : DO2 := fun x y cs P => match x, y with
  | .bl a, .bl b => P (.bl (!decide (a = b))) cs
  | _, _ => False
section
variable {cs : Cs} {P : DP} {k l : Bool}
theorem r_isBs (h : P (.bl true) cs) : oIsB (.bl k) (.bl k) cs P := by
  show P (.bl (decide (k = k))) cs
  rw [decide_eq_true rfl]; exact h
theorem r_notBs (h : P (.bl false) cs) : oNotB (.bl k) (.bl k) cs P := by
  show P (.bl (!decide (k = k))) cs
  rw [decide_eq_true rfl]; exact h
theorem r_isB (h : P (.bl (decide (k = l))) cs) : oIsB (.bl k) (.bl l) cs P := h
theorem r_notB (h : P (.bl (!decide (k = l))) cs) : oNotB (.bl k) (.bl l) cs P := h
end
theorem atD_mem {xs : List D} {r : Int} (h0 : 0 ≤ r) (h1 : r < xs.length) : ∃ x, x ∈ xs ∧ atD xs r = some x := by
  obtain ⟨n, rfl⟩ := Int.eq_ofNat_of_zero_le h0
  have hr : n < xs.length := by omega
  exact ⟨xs[n], List.getElem_mem _, atI_nat (List.getElem?_eq_getElem hr)⟩
mutual
theorem eqD_refl : ∀ (d : D) (n : Nat), plD n d = true → eqD d d = true
  | .non, _, _ => rfl
  | .bl b, _, _ => by simp [eqD]
  | .int i, _, _ => by simp [eqD]
  | .str x, _, _ => by simp [eqD]
  | .tup xs, 0, h => by simp [plD] at h
  | .lst xs, 0, h => by simp [plD] at h
  | .tup xs, n + 1, h => by simp only [eqD]; exact eqL_refl xs n (plD_t h)
  | .lst xs, n + 1, h => by simp only [eqD]; exact eqL_refl xs n (plD_l h)
  | .dic _, n, h => by cases n <;> simp [plD] at h
  | .dct _, n, h => by cases n <;> simp [plD] at h
  | .ins _ _, n, h => by cases n <;> simp [plD] at h
  | .xcp _ _ _ _, n, h => by cases n <;> simp [plD] at h
  | .opq _, n, h => by cases n <;> simp [plD] at h
theorem eqL_refl : ∀ (d : List D) (n : Nat), plL n d = true → eqL d d = true
  | [], _, _ => rfl
  | d :: ds, n, h => by
    simp only [plL, Bool.and_eq_true] at h
    simp only [eqL, Bool.and_eq_true]
    exact ⟨eqD_refl d n h.1, eqL_refl ds n h.2⟩
end
mutual
theorem plD_mono : ∀ (d : D) {n m : Nat}, plD n d = true → n ≤ m → plD m d = true
  | .non, n, m, _, _ => by cases m <;> rfl
  | .bl b, n, m, _, _ => by cases m <;> rfl
  | .int i, n, m, _, _ => by cases m <;> rfl
  | .str x, n, m, _, _ => by cases m <;> rfl
  | .tup xs, 0, m, h, _ => by simp [plD] at h
  | .lst xs, 0, m, h, _ => by simp [plD] at h
  | .tup xs, n + 1, 0, h, l => by omega
  | .lst xs, n + 1, 0, h, l => by omega
  | .tup xs, n + 1, m + 1, h, l => plD_tI (plL_mono xs (plD_t h) (by omega)) (plD_tn h)
  | .lst xs, n + 1, m + 1, h, l => plD_lI (plL_mono xs (plD_l h) (by omega)) (plD_ln h)
  | .dic _, n, m, h, _ => by cases n <;> simp [plD] at h
  | .dct _, n, m, h, _ => by cases n <;> simp [plD] at h
  | .ins _ _, n, m, h, _ => by cases n <;> simp [plD] at h
  | .xcp _ _ _ _, n, m, h, _ => by cases n <;> simp [plD] at h
  | .opq _, n, m, h, _ => by cases n <;> simp [plD] at h
theorem plL_mono : ∀ (d : List D) {n m : Nat}, plL n d = true → n ≤ m → plL m d = true
  | [], _, _, _, _ => rfl
  | d :: ds, n, m, h, l => by
    simp only [plL, Bool.and_eq_true] at h ⊢
    exact ⟨plD_mono d h.1 l, plL_mono ds h.2 l⟩
end
theorem plL_mem : ∀ {ds : List D} {d : D} {n : Nat}, plL n ds = true → d ∈ ds → plD n d = true
  | [], d, _, _, h => by cases h
  | e :: ds, d, n, hk, h => by
    simp only [plL, Bool.and_eq_true] at hk
    rcases List.mem_cons.mp h with z | z
    · rw [z]; exact hk.1
    · exact plL_mem hk.2 z
theorem plL_of : ∀ {ds : List D} {n : Nat}, (∀ d ∈ ds, plD n d = true) → plL n ds = true
  | [], _, _ => rfl
  | d :: ds, n, h => by
    simp only [plL, Bool.and_eq_true]
    exact ⟨h d (List.mem_cons_self ..), plL_of fun e he => h e (List.mem_cons_of_mem _ he)⟩
theorem r_eqSelf {cs : Cs} {P : DP} {d : D} (hd : plD 20 d = true) (h : P (.bl true) cs) : oEq d d cs P := ⟨hd, hd, by rw [eqD_refl d 20 hd]; exact h⟩
theorem vacF {P : Program} {w : World} {K : PySem.W.Frag} {mg : Str → Option Value} {base : Heap} {CX : CXT} {k : Nat} {f : Addr} {fd : FuncData} {ps : List Str} {n : Nat} : FnOk P w K mg base CX k f fd ps (spL K n fun _ _ _ _ => False) :=
  ⟨fun _ _ _ _ h => by obtain ⟨_, _, _, _, _, _, _, _, z, _⟩ := h; exact z.elim, fun _ _ _ _ _ _ _ _ _ _ _ _ _ h => by obtain ⟨_, _, _, _, _, _, _, _, z, _⟩ := h; exact z.elim⟩
end DL
namespace DL
open PySem PySem.Spec PyProof.Rows L2
def del (p : Addr) : Cs → Cs
  | [] => []
  | (a, x) :: r => if a = p then r else (a, x) :: del p r
theorem mem_del {p a : Addr} {x : MO} : ∀ {cs : Cs}, (a, x) ∈ del p cs → (a, x) ∈ cs
  | [], h => h
  | (b, y) :: r, h => by
    unfold del at h
    split at h
    · exact List.mem_cons_of_mem _ h
    · rcases List.mem_cons.mp h with e | e
      · rw [e]; exact List.mem_cons_self ..
      · exact List.mem_cons_of_mem _ (mem_del e)
theorem adr_del {p a : Addr} {cs : Cs} (h : a ∈ adr (del p cs)) : a ∈ adr cs := by
  obtain ⟨⟨b, x⟩, hm, e⟩ := List.mem_map.mp h
  exact List.mem_map.mpr ⟨(b, x), mem_del hm, e⟩
theorem nd_del {p : Addr} : ∀ {cs : Cs}, (adr cs).Nodup → (adr (del p cs)).Nodup ∧ p ∉ adr (del p cs)
  | [], h => ⟨h, fun z => by cases z⟩
  | (a, x) :: r, h => by
    obtain ⟨n1, n2⟩ := List.nodup_cons.mp (show (a :: adr r).Nodup from h)
    obtain ⟨i1, i2⟩ := nd_del (p := p) n2
    unfold del
    split
    · rename_i e
      rw [← e]
      exact ⟨n2, n1⟩
    · rename_i e
      refine ⟨List.nodup_cons.mpr ⟨fun z => n1 (adr_del z), i1⟩, fun z => ?_⟩
      rcases List.mem_cons.mp (show p ∈ a :: adr (del p r) from z) with z | z
      · exact e z.symm
      · exact i2 z
theorem Sta.frz {K : PySem.W.Frag} {F G0 H : Hp} {cs : Cs} {p : Addr} {m : MO} (s : Sta K F G0 cs H) (hl : DL.look p cs = some m) : Sta K F G0 (del p cs) H ∧ Ex (pur F cs H) (pur F (del p cs) H) ∧ ∃ o, pur F (del p cs) H p = some o ∧ MoOk K (pur F (del p cs) H) m o := by
  have g : Ex (pur F cs H) (pur F (del p cs) H) := fun b u e => by
    obtain ⟨e1, e2, e3⟩ := pur_of e
    rw [pur_at e2 fun z => e3 (adr_del z)]; exact e1
  obtain ⟨n1, n2⟩ := nd_del (p := p) s.nd
  have hp : p ∈ adr cs := List.mem_map.mpr ⟨(p, m), look_mem hl, rfl⟩
  refine ⟨⟨s.fr, s.gr.trans g, n1, fun a h => s.ap a (adr_del h), fun a m' h => ?_, s.ft⟩, g, ?_⟩
  · obtain ⟨u, hu, r⟩ := s.ow a m' (mem_del h)
    exact ⟨u, hu, r.mono g⟩
  · obtain ⟨u, hu, r⟩ := s.ow p m (look_mem hl)
    exact ⟨u, by rw [pur_at (s.ap p hp) n2]; exact hu, r.mono g⟩
section
variable {X : Cx} {W : WX} {K : PySem.W.Frag} {σ : L2.St} {H : Hp} {pos : Pos} {a b c e : Expr} {es : List Expr} {wa wb wc we : DL.WE} {w wk : WA}
def wFrz (we : DL.WE) : DL.WE := fun ρ cs P Z => we ρ cs (fun d cs1 => ∃ p xs, d = .opq (.ref p) ∧ look p cs1 = some (.lst xs) ∧ P (.lst xs) (del p cs1)) Z
mutual
inductive Lend (cs : Cs) : D → D → Prop
  | same (d : D) : Lend cs d d
  | at_ {p : Addr} {xs ys : List D} : look p cs = some (.lst xs) → LendL cs xs ys → Lend cs (.opq (.ref p)) (.lst ys)
  | tup {xs ys : List D} : LendL cs xs ys → Lend cs (.tup xs) (.tup ys)
  | lst {xs ys : List D} : LendL cs xs ys → Lend cs (.lst xs) (.lst ys)
inductive LendL (cs : Cs) : List D → List D → Prop
  | nil : LendL cs [] []
  | cons {x y : D} {xs ys : List D} : Lend cs x y → LendL cs xs ys → LendL cs (x :: xs) (y :: ys)
end
theorem LendL.self (cs : Cs) : ∀ xs, LendL cs xs xs
  | [] => .nil
  | x :: xs => .cons (.same x) (LendL.self cs xs)
def flatD : D → Bool
  | .non => true
  | .bl _ => true
  | .int _ => true
  | .str _ => true
  | _ => false
variable {x : Str} {p : Pos}
def wChain (o o' : DO2) (wa wb wc : DL.WE) : DL.WE := fun ρ cs P Z => wa ρ cs (fun x cs1 => wb ρ cs1 (fun y cs2 => o x y cs2 fun z cs3 => match z with
  | .bl k => (k = true → wc ρ cs3 (fun u cs4 => o' y u cs4 P) Z) ∧ (k = false → P (.bl false) cs3)
  | _ => False) Z) Z
theorem chain_ok {r r' : R2} {o o' : DO2} (adq : Adq K r o) (adq' : Adq K r' o') {Q : VK} : lE K W (wChain o o' wa wb wc) σ H Q → tChain r r' (lE K W wa) (lE K W wb) (lE K W wc) σ H Q := by
  rintro ⟨F, cs, ρ, P, Z, s, re, hw, pe, px⟩
  refine ⟨F, cs, ρ, _, Z, s, re, hw, fun H1 cs1 v d s1 r1 h1 => ?_, px⟩
  refine ⟨F, cs1, ρ, _, Z, s1.self, re.mono s1.gr, h1, fun H2 cs2 v2 d2 s2 r2 h2 => ?_, px.le s1.gr⟩
  refine adq F cs2 H2 v v2 d d2 _ _ s2.self (r1.mono s2.gr) r2 h2 fun H3 cs3 v3 d3 s3 r3 h3 => ?_
  have g2 := s1.gr.trans s2.gr
  have g3 := g2.trans s3.gr
  cases d3 <;> try exact h3.elim
  rename_i k
  cases r3
  refine ⟨k, rfl, ?_⟩
  cases k with
  | true =>
    refine iteT ⟨F, cs3, ρ, _, Z, s3.self, re.mono g3, h3.1 rfl, fun H4 cs4 v4 d4 s4 r4 h4 => ?_, px.le g3⟩
    exact adq' F cs4 H4 v2 v4 d2 d4 P Q s4.self ((r2.mono s3.gr).mono s4.gr) r4 h4 (pe.le (g3.trans s4.gr))
  | false => exact iteF (pe H3 cs3 _ _ (s3.from_ g2) (.bl _) (h3.2 rfl))
theorem dt_chain {op op' : CmpOp} {r r' : R2} {o o' : DO2} (ho : OpR X (compareOp op) r) (ho' : OpR X (compareOp op') r') (adq : Adq X.K r o) (adq' : Adq X.K r' o') (ha : DE X W a wa) (hb : DE X W b wb) (hc : DE X W c wc)
    (hm : lastMarks [op, op'] [b, c] = false) : DT X W (.Compare a [op, op'] [b, c] pos) (wTest (wChain o o' wa wb wc)) := PT.imp (pt_chain ho ho' ha hb hc hm) fun σ H Q h => by
  obtain ⟨F, cs, ρ, P, Z, s, re, hw, pe, px⟩ := h
  refine chain_ok (W := W) (Q := fun x H' => ∃ k, x = V.bl k ∧ Q k H') adq adq' ⟨F, cs, ρ, _, Z, s, re, hw, fun H1 cs1 v d s1 r1 h1 => ?_, px⟩
  obtain ⟨k, rfl, h⟩ := test_inv h1
  cases r1
  exact ⟨k, rfl, pe H1 cs1 k s1 h⟩
theorem dt_chain_le_le (ha : DE X W a wa) (hb : DE X W b wb) (hc : DE X W c wc) (hm : lastMarks [.LtE, .LtE] [b, c] = false := by with_unfolding_all rfl) : DT X W (.Compare a [.LtE, .LtE] [b, c] pos) (wTest (wChain oLe oLe wa wb wc)) := dt_chain op_le op_le (adq_I0 fun _ _ _ => .bl _) (adq_I0 fun _ _ _ => .bl _) ha hb hc hm
def oIn : DO2 := fun x y cs P => (∃ (s : Str) (ss : List Str), x = .str s ∧ (y = .tup (ss.map D.str) ∨ y = .lst (ss.map D.str)) ∧ P (.bl (decide (s ∈ ss))) cs) ∨ (∃ (s : Int) (ss : List Int), x = .int s ∧ (y = .tup (ss.map D.int) ∨ y = .lst (ss.map D.int)) ∧ P (.bl (decide (s ∈ ss))) cs)
def oNotIn : DO2 := fun x y cs P => (∃ (s : Str) (ss : List Str), x = .str s ∧ (y = .tup (ss.map D.str) ∨ y = .lst (ss.map D.str)) ∧ P (.bl (!decide (s ∈ ss))) cs) ∨ (∃ (s : Int) (ss : List Int), x = .int s ∧ (y = .tup (ss.map D.int) ∨ y = .lst (ss.map D.int)) ∧ P (.bl (!decide (s ∈ ss))) cs)
def sPar3 (i j l : Nat) (w : WA) : WS := fun f ρ cs => w ρ cs (fun ds cs1 => match ds with
  | [x, y, z] => f.nx (((ρ.set i (some x)).set j (some y)).set l (some z)) cs1
  | _ => False) (fun x cs1 => f.ex x ρ cs1)
def wCallK (sp : DSp) (w wk : WA) : DL.WE := fun ρ cs P Z => w ρ cs (fun ds cs1 => wk ρ cs1 (fun zs cs2 => sp (ds ++ zs) cs2 P Z) Z) Z
/-- a call that leaves the defaults dds lacking -/
theorem d_callD {k n : Nat} {f : Addr} {fd : FuncData} {ps : List Str} {sp : DSp} {dvs : List V} {dds : List D} (F : FnOk X.prog X.w X.K X.mg X.base (L2.CX X.prog X.w) k f fd ps (spL X.K n sp)) (hr : Room k X.A) (hg : Gl X x) (hm : X.mg x = some (.ref f)) (hk : PySem.W.keepIn X.K (.ref f) = true)
    (hb : ∃ ds, Vals dvs ds ∧ Binds X.K fd ps ds) (hdd : ∀ G, RepL X.K G dvs dds) (tk : Takes X W)
    (ha : DA X W (e :: es) w) (hn : (e :: es).length + dds.length = n := by rfl) (hdb : (x == ("__debug__" : Str)) = false := by decide) (he : starEach (e :: es) X.env = (false, eval e X.env) :: starEach es X.env := by rfl) (hpl : (backTo pos (starEach es X.env)).any (·.1) = false := by rfl) :
    DE X W (.Call (.Name x p) (e :: es) [] pos) (wCall sp dds w) := by
  obtain ⟨ds, h1, h2⟩ := hb
  exact d_call F hr hg hm hk h2 h1 hdd tk ha hn hdb he hpl
end
section
variable {X : Cx} {W : WX} {K : PySem.W.Frag} {e tg : Expr} {we : DL.WE}
def iAnyD (we : DL.WE) : WI := fun ρ cs P Z => we ρ cs (fun d cs1 => match d with
  | .lst xs => P xs cs1
  | .tup xs => P xs cs1
  | _ => False) Z
def oSumA : DOn := fun ds cs P => ∃ ns : List Int, (ds = [.lst (ns.map D.int)] ∨ ds = [.tup (ns.map D.int)]) ∧ P (.int ns.sum) cs
end
section
variable {ρ : DL.Env} {cs : Cs} {P : DP} {Z : XZ} {wa wb wc we : DL.WE} {w wk : WA} {d : D} {p : Addr} {xs : List D} {f : Fin}
theorem look_hd {m : MO} : look p ((p, m) :: cs) = some m := by unfold look; rw [if_pos rfl]
theorem put_hd {m m' : MO} : put p m' ((p, m) :: cs) = (p, m') :: cs := by unfold put; rw [if_pos rfl]
theorem del_hd {m : MO} : del p ((p, m) :: cs) = cs := by unfold del; rw [if_pos rfl]
theorem r_frz (h : we ρ cs (fun d cs1 => ∃ p xs, d = .opq (.ref p) ∧ look p cs1 = some (.lst xs) ∧ P (.lst xs) (del p cs1)) Z) : wFrz we ρ cs P Z := h
theorem r_frzH (h : P (.lst xs) cs) : ∃ q ys, D.opq (.ref p) = .opq (.ref q) ∧ look q ((p, MO.lst xs) :: cs) = some (.lst ys) ∧ P (.lst ys) (del q ((p, MO.lst xs) :: cs)) := ⟨p, xs, rfl, look_hd, by rw [del_hd]; exact h⟩
theorem r_appendH (hz : xs.length < 100000) (h : P .non ((p, .lst (xs ++ [d])) :: cs)) : oAppend (.opq (.ref p)) [d] ((p, .lst xs) :: cs) P := r_append look_hd hz (by rw [put_hd]; exact h)
theorem BagIn.cons {q : Addr} {m : MO} (h : BagIn p cs) (hq : q ∉ adr cs) : BagIn p ((q, m) :: cs) := by
  obtain ⟨b, e, hb⟩ := h
  refine ⟨b, ?_, hb⟩
  unfold look
  rw [if_neg fun z => hq ?_]
  · exact e
  · rw [z]; exact List.mem_map.mpr ⟨(p, b), look_mem e, rfl⟩
theorem r_isMH {R : Prop} (h : R) : isL (.opq (.ref p)) ((p, .lst xs) :: cs) ∧ R := r_isM look_hd h
theorem r_lstM (h : w ρ cs (fun ds cs1 => ∀ p, p ∉ adr cs1 → P (.opq (.ref p)) ((p, .lst ds) :: cs1)) Z) : wLstM w ρ cs P Z := h
theorem r_chain {o o' : DO2} (h : wa ρ cs (fun x cs1 => wb ρ cs1 (fun y cs2 => o x y cs2 fun z cs3 => match z with
  | .bl k => (k = true → wc ρ cs3 (fun u cs4 => o' y u cs4 P) Z) ∧ (k = false → P (.bl false) cs3)
  | _ => False) Z) Z) : wChain o o' wa wb wc ρ cs P Z := h
theorem r_par3 {i j l : Nat} (h : w ρ cs (fun ds cs1 => match ds with
  | [x, y, z] => f.nx (((ρ.set i (some x)).set j (some y)).set l (some z)) cs1
  | _ => False) (fun x cs1 => f.ex x ρ cs1)) : sPar3 i j l w f ρ cs := h
theorem r_callK {sp : DSp} (h : w ρ cs (fun ds cs1 => wk ρ cs1 (fun zs cs2 => sp (ds ++ zs) cs2 P Z) Z) Z) : wCallK sp w wk ρ cs P Z := h
theorem r_anyI {R : List D → Cs → Prop} (h : we ρ cs (fun d cs1 => match d with | .lst xs => R xs cs1 | .tup xs => R xs cs1 | _ => False) Z) : iAnyD we ρ cs R Z := h
theorem r_callD {sp : DSp} {dds : List D} (h : w ρ cs (fun ds cs1 => sp (ds ++ dds) cs1 P Z) Z) : wCall sp dds w ρ cs P Z := h
end
end DL
namespace DL
open PySem L2
structure Bx where
  l : Rat
  t : Rat
  w : Rat
  h : Rat
def Bx.d (b : Bx) : D := dB b.l b.t b.w b.h
structure Bx.Sz (b : Bx) (n : Nat) : Prop where
  l : DL.Sz n b.l
  t : DL.Sz n b.t
  w : DL.Sz n b.w
  h : DL.Sz n b.h
structure Bx.Pos (b : Bx) : Prop where
  w : 0 < b.w
  h : 0 < b.h
/-- weights that may be shared by -/
structure WOk (ws : List Int) : Prop where
  l0 : 1 ≤ ws.length
  l1 : ws.length ≤ 12
  pos : ∀ w ∈ ws, 1 ≤ w
  sum : ws.sum < 2 ^ 23
/-- weights as the package takes them -/
structure WtOk (ws : List Int) : Prop where
  l0 : 1 ≤ ws.length
  l1 : ws.length ≤ 12
  rg : ∀ w ∈ ws, 1 ≤ w ∧ w ≤ 400000
theorem sum_le {k : Int} : ∀ {ws : List Int}, (∀ w ∈ ws, w ≤ k) → ws.sum ≤ k * ws.length
  | [], _ => by simp
  | w :: ws, h => by
    have h1 := h w (List.mem_cons_self ..)
    have h2 := sum_le fun x hx => h x (List.mem_cons_of_mem _ hx)
    rw [List.sum_cons, List.length_cons, Int.natCast_add, Int.mul_add]
    omega
theorem len_le_sum : ∀ {ws : List Int}, (∀ w ∈ ws, 1 ≤ w) → (ws.length : Int) ≤ ws.sum
  | [], _ => by simp
  | w :: ws, h => by
    have h1 := h w (List.mem_cons_self ..)
    have h2 := len_le_sum fun x hx => h x (List.mem_cons_of_mem _ hx)
    rw [List.sum_cons, List.length_cons, Int.natCast_add]
    omega
theorem WtOk.wok {ws : List Int} (h : WtOk ws) : WOk ws := by
  refine ⟨h.l0, h.l1, fun w hw => (h.rg w hw).1, ?_⟩
  have := sum_le fun w hw => (h.rg w hw).2
  have := h.l1
  omega
def preS (ws : List Int) (i : Nat) : Int := (ws.take i).sum
theorem preS_succ {ws : List Int} {i : Nat} {w : Int} (h : ws[i]? = some w) : preS ws (i + 1) = preS ws i + w := by
  unfold preS
  rw [take_more h, List.sum_append]
  simp
theorem preS_nonneg {ws : List Int} (h : ∀ w ∈ ws, 1 ≤ w) (i : Nat) : 0 ≤ preS ws i := by
  have := len_le_sum (ws := ws.take i) fun w hw => h w (List.mem_of_mem_take hw)
  unfold preS
  omega
theorem preS_le {ws : List Int} (h : ∀ w ∈ ws, 1 ≤ w) (i : Nat) : preS ws i ≤ ws.sum := by
  have h1 : (ws.take i ++ ws.drop i).sum = ws.sum := by rw [List.take_append_drop]
  have h2 := len_le_sum (ws := ws.drop i) fun w hw => h w (List.mem_of_mem_drop hw)
  rw [List.sum_append] at h1
  unfold preS
  omega
theorem Sz.frac {a b : Int} (h0 : 0 ≤ a) (h1 : a < 2 ^ 23) (h2 : 0 < b) (h3 : b < 2 ^ 23) : Sz 23 (Rat.divInt a b) := Sz.divInt (n := 23) (by omega) (by omega) (by omega) (Nat.le_refl _)
/-- what stands at a share of a box, down or across -/
def cutB (b : Bx) (dn : Bool) (begin share : Rat) : Bx := if dn then ⟨b.l, b.t + b.h * begin, b.w, b.h * share⟩ else ⟨b.l + b.w * begin, b.t, b.w * share, b.h⟩
def splitAt_ (b : Bx) (ws : List Int) (dn : Bool) (i : Nat) : Bx := cutB b dn (Rat.divInt (preS ws i) ws.sum) (Rat.divInt (ws.getD i 0) ws.sum)
def sideD (dn : Bool) : D := .str (if dn then "down" else "across")
theorem plD_Bx (b : Bx) {n : Nat} : plD (n + 2) b.d = true := by
  unfold Bx.d dB
  refine plD_tI ?_ (by show 4 ≤ 100000; decide)
  simp only [plL, plD_dR, Bool.and_self]
theorem plD_Bxs (bs : List Bx) (hl : bs.length ≤ 100000) {n : Nat} : plD (n + 3) (.lst (bs.map Bx.d)) = true := by
  refine plD_lI (plL_of fun d hd => ?_) (by rw [List.length_map]; exact hl)
  obtain ⟨b, _, rfl⟩ := List.mem_map.mp hd
  exact plD_Bx b
theorem plD_int (i : Int) {n : Nat} : plD n (.int i) = true := by cases n <;> rfl
theorem plL_ints (ws : List Int) {n : Nat} : plL n (ws.map D.int) = true := plL_of fun d hd => by
  obtain ⟨w, _, rfl⟩ := List.mem_map.mp hd
  exact plD_int w
theorem plD_ints (ws : List Int) (hl : ws.length ≤ 100000) {n : Nat} : plD (n + 1) (.lst (ws.map D.int)) = true := plD_lI (plL_ints ws) (by rw [List.length_map]; exact hl)
theorem plD_intsT (ws : List Int) (hl : ws.length ≤ 100000) {n : Nat} : plD (n + 1) (.tup (ws.map D.int)) = true := plD_tI (plL_ints ws) (by rw [List.length_map]; exact hl)
theorem szlt {a : Int} (h0 : 0 < a) (h1 : a < 2 ^ 23) : a.natAbs < 2 ^ 9000 := by
  have h : a.natAbs < 2 ^ 23 := by omega
  exact Nat.lt_of_lt_of_le h (Nat.pow_le_pow_right (by decide) (by decide))
section
variable {cs : Cs} {P : DP} {dn : Bool}
theorem r_eqDn (h : P (.bl dn) cs) : oEq (sideD dn) (.str "down") cs P := ⟨rfl, rfl, by
  cases dn
  · rw [show eqD (sideD false) (.str "down") = false by decide]; exact h
  · rw [show eqD (sideD true) (.str "down") = true by decide]; exact h⟩
theorem r_eqAc (h : P (.bl (!dn)) cs) : oEq (sideD dn) (.str "across") cs P := ⟨rfl, rfl, by
  cases dn
  · rw [show eqD (sideD false) (.str "across") = true by decide]; exact h
  · rw [show eqD (sideD true) (.str "across") = false by decide]; exact h⟩
end
theorem divInt_pos' {a b : Int} (ha : 0 < a) (hb : 0 < b) : 0 < Rat.divInt a b := by
  rw [Rat.divInt_eq_div]
  rw [Rat.div_def]
  exact Rat.mul_pos (Rat.intCast_pos.mpr ha) (Rat.inv_pos.mpr (Rat.intCast_pos.mpr hb))
theorem Bx.Sz.mono {b : Bx} {n m : Nat} (h : b.Sz n) (l : n ≤ m) : b.Sz m := ⟨h.l.mono l, h.t.mono l, h.w.mono l, h.h.mono l⟩
section
variable {cs : Cs} {P : DP} {b : Bx}
theorem r_ixB0 (h : P (dR b.l) cs) : oIx b.d (.int 0) cs P := h
theorem r_ixB1 (h : P (dR b.t) cs) : oIx b.d (.int 1) cs P := h
theorem r_ixB2 (h : P (dR b.w) cs) : oIx b.d (.int 2) cs P := h
theorem r_ixB3 (h : P (dR b.h) cs) : oIx b.d (.int 3) cs P := h
end
end DL
namespace DL
open PySem PySem.Spec PyProof.Rows L2
section
variable {X : Cx} {W : WX} {K : PySem.W.Frag} {σ : L2.St} {H : Hp}
/-- the end of a comprehension -/
abbrev CEnd (K : PySem.W.Frag) (F G : Hp) (R : List D → Cs → Prop) (Q : VK) : Prop := ∀ H2 cs2 D vacc acc, F D = none → Sta K (upd F D (.lst vacc)) G cs2 H2 → RepL K (pur (upd F D (.lst vacc)) cs2 H2) vacc acc → R acc cs2 → Q (.ref D) H2
theorem CEnd.le {F G G' : Hp} {R : List D → Cs → Prop} {Q : VK} (h : CEnd K F G R Q) (e : Ex G G') : CEnd K F G' R Q := fun H2 cs2 D vacc acc hF s => h H2 cs2 D vacc acc hF (s.from_ e)
def wCompR (wi : WI) (g : WG) (wt : WT) (we : DL.WE) (vs : List Nat) (R : DP → List D → Cs → Prop) : DL.WE := fun ρ cs P Z => wi ρ cs (fun xs cs1 => xs.length ≤ 100000 ∧ compW g wt we xs (wipeD ρ vs) cs1 [] (R P)) Z
def compW2 (g : WG) (wt : WT) (wi1 : WI) (g1 : WG) (wt1 : WT) (we : DL.WE) (vs1 : List Nat) : List D → DL.Env → Cs → List D → (List D → Cs → Prop) → Prop
  | [], _, cs, acc, P => P acc cs
  | d :: r, ρ, cs, acc, P => g d ρ fun ρ1 => wt ρ1 cs (fun k cs1 => (k = true → wi1 ρ1 cs1 (fun xs cs2 => acc.length + xs.length ≤ 100000 ∧ compW g1 wt1 we xs (wipeD ρ1 vs1) cs2 acc (fun acc' cs3 => compW2 g wt wi1 g1 wt1 we vs1 r ρ cs3 acc' P)) Z0) ∧ (k = false → compW2 g wt wi1 g1 wt1 we vs1 r ρ cs1 acc P)) Z0
def wComp2 (wi : WI) (g : WG) (wt : WT) (wi1 : WI) (g1 : WG) (wt1 : WT) (we : DL.WE) (vs vs1 : List Nat) (R : DP → List D → Cs → Prop) : DL.WE := fun ρ cs P Z => wi ρ cs (fun xs cs1 => compW2 g wt wi1 g1 wt1 we vs1 xs (wipeD ρ vs) cs1 [] (R P)) Z
variable {elt tg iter tg1 iter1 : Expr} {ifs ifs1 : List Expr} {scope : Scope} {own : List (Str × Nat)} {vs1 : List Nat} {pos : Pos} {wi wi1 : WI} {g g1 : TG} {gd gd1 : WG} {wt wt1 : WT} {we : DL.WE}
end
section
variable {ρ : DL.Env} {cs : Cs} {P : DP} {Z : XZ} {we : DL.WE} {wt wt1 : WT}
theorem r_compM_ {wi : WI} {g : WG} {vs : List Nat} {R : DP → List D → Cs → Prop} (h : wi ρ cs (fun xs cs1 => xs.length ≤ 100000 ∧ compW g wt we xs (wipeD ρ vs) cs1 [] (R P)) Z) : wCompR wi g wt we vs R ρ cs P Z := h
theorem r_comp2 {wi wi1 : WI} {g g1 : WG} {vs vs1 : List Nat} {R : DP → List D → Cs → Prop} (h : wi ρ cs (fun xs cs1 => compW2 g wt wi1 g1 wt1 we vs1 xs (wipeD ρ vs) cs1 [] (R P)) Z) : wComp2 wi g wt wi1 g1 wt1 we vs vs1 R ρ cs P Z := h
end
end DL
namespace DL
open PySem PySem.Spec PyProof.Rows L2
section
variable {p : Prop} [Decidable p] {A B : Prop} {k : Bool}
theorem r_isT (hk : k = true) (h : A) : (k = true → A) ∧ (k = false → B) := ⟨fun _ => h, fun z => absurd (hk.symm.trans z) (by decide)⟩
theorem r_isF (hk : k = false) (h : B) : (k = true → A) ∧ (k = false → B) := ⟨fun z => absurd (hk.symm.trans z) (by decide), fun _ => h⟩
theorem r_pos (hp : p) (h : A) : (decide p = true → A) ∧ (decide p = false → B) := r_isT (decide_eq_true hp) h
theorem r_neg_ (hp : ¬ p) (h : B) : (decide p = true → A) ∧ (decide p = false → B) := r_isF (decide_eq_false hp) h
theorem r_npos (hp : p) (h : B) : ((!decide p) = true → A) ∧ ((!decide p) = false → B) := r_isF (by rw [decide_eq_true hp]; rfl) h
theorem r_nneg (hp : ¬ p) (h : A) : ((!decide p) = true → A) ∧ ((!decide p) = false → B) := r_isT (by rw [decide_eq_false hp]; rfl) h
end
theorem r_app11 {sp : DSp} {x0 y0 : D} {cs : Cs} {P : DP} {Z : XZ} (h : sp [x0, y0] cs P Z) : sp ([x0] ++ [y0]) cs P Z := h
theorem r_app12 {sp : DSp} {x0 y0 y1 : D} {cs : Cs} {P : DP} {Z : XZ} (h : sp [x0, y0, y1] cs P Z) : sp ([x0] ++ [y0, y1]) cs P Z := h
theorem r_app21 {sp : DSp} {x0 x1 y0 : D} {cs : Cs} {P : DP} {Z : XZ} (h : sp [x0, x1, y0] cs P Z) : sp ([x0, x1] ++ [y0]) cs P Z := h
theorem r_app22 {sp : DSp} {x0 x1 y0 y1 : D} {cs : Cs} {P : DP} {Z : XZ} (h : sp [x0, x1, y0, y1] cs P Z) : sp ([x0, x1] ++ [y0, y1]) cs P Z := h
theorem r_app31 {sp : DSp} {x0 x1 x2 y0 : D} {cs : Cs} {P : DP} {Z : XZ} (h : sp [x0, x1, x2, y0] cs P Z) : sp ([x0, x1, x2] ++ [y0]) cs P Z := h
theorem r_app32 {sp : DSp} {x0 x1 x2 y0 y1 : D} {cs : Cs} {P : DP} {Z : XZ} (h : sp [x0, x1, x2, y0, y1] cs P Z) : sp ([x0, x1, x2] ++ [y0, y1]) cs P Z := h
theorem r_app41 {sp : DSp} {x0 x1 x2 x3 y0 : D} {cs : Cs} {P : DP} {Z : XZ} (h : sp [x0, x1, x2, x3, y0] cs P Z) : sp ([x0, x1, x2, x3] ++ [y0]) cs P Z := h
theorem r_app42 {sp : DSp} {x0 x1 x2 x3 y0 y1 : D} {cs : Cs} {P : DP} {Z : XZ} (h : sp [x0, x1, x2, x3, y0, y1] cs P Z) : sp ([x0, x1, x2, x3] ++ [y0, y1]) cs P Z := h
theorem r_app51 {sp : DSp} {x0 x1 x2 x3 x4 y0 : D} {cs : Cs} {P : DP} {Z : XZ} (h : sp [x0, x1, x2, x3, x4, y0] cs P Z) : sp ([x0, x1, x2, x3, x4] ++ [y0]) cs P Z := h
theorem r_app52 {sp : DSp} {x0 x1 x2 x3 x4 y0 y1 : D} {cs : Cs} {P : DP} {Z : XZ} (h : sp [x0, x1, x2, x3, x4, y0, y1] cs P Z) : sp ([x0, x1, x2, x3, x4] ++ [y0, y1]) cs P Z := h
theorem r_dn1 {sp : DSp} {x0 : D} {cs : Cs} {P : DP} {Z : XZ} (h : sp [x0, sideD true] cs P Z) : sp [x0, .str "down"] cs P Z := h
theorem r_ac1 {sp : DSp} {x0 : D} {cs : Cs} {P : DP} {Z : XZ} (h : sp [x0, sideD false] cs P Z) : sp [x0, .str "across"] cs P Z := h
theorem r_dn2 {sp : DSp} {x0 x1 : D} {cs : Cs} {P : DP} {Z : XZ} (h : sp [x0, x1, sideD true] cs P Z) : sp [x0, x1, .str "down"] cs P Z := h
theorem r_ac2 {sp : DSp} {x0 x1 : D} {cs : Cs} {P : DP} {Z : XZ} (h : sp [x0, x1, sideD false] cs P Z) : sp [x0, x1, .str "across"] cs P Z := h
theorem r_dn3 {sp : DSp} {x0 x1 x2 : D} {cs : Cs} {P : DP} {Z : XZ} (h : sp [x0, x1, x2, sideD true] cs P Z) : sp [x0, x1, x2, .str "down"] cs P Z := h
theorem r_ac3 {sp : DSp} {x0 x1 x2 : D} {cs : Cs} {P : DP} {Z : XZ} (h : sp [x0, x1, x2, sideD false] cs P Z) : sp [x0, x1, x2, .str "across"] cs P Z := h
theorem r_dn4 {sp : DSp} {x0 x1 x2 x3 : D} {cs : Cs} {P : DP} {Z : XZ} (h : sp [x0, x1, x2, x3, sideD true] cs P Z) : sp [x0, x1, x2, x3, .str "down"] cs P Z := h
theorem r_ac4 {sp : DSp} {x0 x1 x2 x3 : D} {cs : Cs} {P : DP} {Z : XZ} (h : sp [x0, x1, x2, x3, sideD false] cs P Z) : sp [x0, x1, x2, x3, .str "across"] cs P Z := h
theorem r_dn5 {sp : DSp} {x0 x1 x2 x3 x4 : D} {cs : Cs} {P : DP} {Z : XZ} (h : sp [x0, x1, x2, x3, x4, sideD true] cs P Z) : sp [x0, x1, x2, x3, x4, .str "down"] cs P Z := h
theorem r_ac5 {sp : DSp} {x0 x1 x2 x3 x4 : D} {cs : Cs} {P : DP} {Z : XZ} (h : sp [x0, x1, x2, x3, x4, sideD false] cs P Z) : sp [x0, x1, x2, x3, x4, .str "across"] cs P Z := h
section
variable {ρ : DL.Env} {cs : Cs} {wa wb we wo wi wv : DL.WE} {w : WA} {ta : WT} {u v : WS} {i j l : Nat} {nx bk ct : DL.Env → Cs → Prop} {rt : D → Cs → Prop} {ex : Exn → DL.Env → Cs → Prop}
theorem q_sif (h : ta ρ cs (fun k cs1 => (k = true → u ⟨nx, rt, ex, bk, ct⟩ ρ cs1) ∧ (k = false → v ⟨nx, rt, ex, bk, ct⟩ ρ cs1)) (fun x cs1 => ex x ρ cs1)) : sIf ta u v ⟨nx, rt, ex, bk, ct⟩ ρ cs := h
theorem q_set (h : we ρ cs (fun d cs1 => nx (ρ.set i (some d)) cs1) (fun x cs1 => ex x ρ cs1)) : sAsg we (gN i) ⟨nx, rt, ex, bk, ct⟩ ρ cs := h
theorem q_asg {g : WG} (h : we ρ cs (fun d cs1 => g d ρ fun ρ' => nx ρ' cs1) (fun x cs1 => ex x ρ cs1)) : sAsg we g ⟨nx, rt, ex, bk, ct⟩ ρ cs := h
theorem q_ret (h : we ρ cs rt (fun x cs1 => ex x ρ cs1)) : sRet we ⟨nx, rt, ex, bk, ct⟩ ρ cs := h
theorem q_retN (h : rt .non cs) : sRetN ⟨nx, rt, ex, bk, ct⟩ ρ cs := h
theorem q_drop (h : we ρ cs (fun _ cs1 => nx ρ cs1) (fun x cs1 => ex x ρ cs1)) : sDrop we ⟨nx, rt, ex, bk, ct⟩ ρ cs := h
theorem q_next (h : nx ρ cs) : sNext ⟨nx, rt, ex, bk, ct⟩ ρ cs := h
theorem q_brk (h : bk ρ cs) : sBreak ⟨nx, rt, ex, bk, ct⟩ ρ cs := h
theorem q_ct (h : ct ρ cs) : sCont ⟨nx, rt, ex, bk, ct⟩ ρ cs := h
theorem q_par (h : wa ρ cs (fun x cs1 => wb ρ cs1 (fun y cs2 => nx ((ρ.set i (some x)).set j (some y)) cs2) (fun x cs1 => ex x ρ cs1)) (fun x cs1 => ex x ρ cs1)) : sPar i j (wCons wa (wCons wb wNil)) ⟨nx, rt, ex, bk, ct⟩ ρ cs := h
theorem q_setix (h : wv ρ cs (fun v cs1 => wo ρ cs1 (fun x cs2 => wi ρ cs2 (fun i cs3 => oSetL x i v cs3 fun cs4 => nx ρ cs4) (fun x cs1 => ex x ρ cs1)) (fun x cs1 => ex x ρ cs1)) (fun x cs1 => ex x ρ cs1)) : sSetIx wv wo wi oSetL ⟨nx, rt, ex, bk, ct⟩ ρ cs := h
theorem q_aug {o : DO2} {x : D} (hi : ρ[i]? = some (some x)) (h : we ρ cs (fun y cs1 => o x y cs1 fun z cs2 => nx (ρ.set i (some z)) cs2) (fun x cs1 => ex x ρ cs1)) : sAug i o we ⟨nx, rt, ex, bk, ct⟩ ρ cs := r_aug hi h
theorem q_for {wi : WI} {g : WG} (h : wi ρ cs (fun xs cs1 => loopW g u ⟨nx, rt, ex, bk, ct⟩ xs ρ cs1) (fun x cs1 => ex x ρ cs1)) : sFor wi g u ⟨nx, rt, ex, bk, ct⟩ ρ cs := h
theorem q_par3 (h : w ρ cs (fun ds cs1 => match ds with
  | [x, y, z] => nx (((ρ.set i (some x)).set j (some y)).set l (some z)) cs1
  | _ => False) (fun x cs1 => ex x ρ cs1)) : sPar3 i j l w ⟨nx, rt, ex, bk, ct⟩ ρ cs := h
end
section
variable {ρ : DL.Env} {cs : Cs} {P : DP} {Z : XZ} {x y z : D} {ds : List D}
theorem g_s {u : WS} {f : Fin} (h : u f ρ cs) : u f ρ cs := h
theorem g_e {u : DL.WE} (h : u ρ cs P Z) : u ρ cs P Z := h
theorem g_t {u : WT} {Q : Bool → Cs → Prop} (h : u ρ cs Q Z) : u ρ cs Q Z := h
theorem g_a {u : WA} {Q : List D → Cs → Prop} (h : u ρ cs Q Z) : u ρ cs Q Z := h
theorem g_o {u : WO} {Q : Option Int → Cs → Prop} (h : u ρ cs Q Z) : u ρ cs Q Z := h
theorem g_2 {o : DO2} (h : o x y cs P) : o x y cs P := h
theorem g_n {o : DOn} (h : o ds cs P) : o ds cs P := h
theorem g_p {o : DSp} (h : o ds cs P Z) : o ds cs P Z := h
theorem g_m {o : DMt} (h : o x ds cs P) : o x ds cs P := h
theorem g_g {g : WG} {k : DL.Env → Prop} (h : g x ρ k) : g x ρ k := h
theorem g_gs {g : WGs} {k : DL.Env → Prop} (h : g ds ρ k) : g ds ρ k := h
theorem g_w {o : DSet} {k : Cs → Prop} (h : o x y z cs k) : o x y z cs k := h
theorem g_c {A B : Prop} (h : A ∧ B) : A ∧ B := h
end
section
variable {α : Type} {ρ : DL.Env} {cs : Cs} {we : DL.WE} {wt : WT}
theorem r_loopL {nx bk ct : DL.Env → Cs → Prop} {rt : D → Cs → Prop} {ex : Exn → DL.Env → Cs → Prop} {gd : WG} {wb : WS} (I : Nat → DL.Env → Cs → Prop) {l : List α} {g : α → D} (h0 : I 0 ρ cs)
    (hs : ∀ i a ρ cs (N : DL.Env → Cs → Prop), l[i]? = some a → I i ρ cs → (∀ ρ' cs', I (i + 1) ρ' cs' → N ρ' cs') → gd (g a) ρ fun ρ1 => wb ⟨N, rt, ex, nx, N⟩ ρ1 cs)
    (hd : ∀ ρ cs, I l.length ρ cs → nx ρ cs) : loopW gd wb ⟨nx, rt, ex, bk, ct⟩ (l.map g) ρ cs := by
  refine r_loop0 I h0 (fun i d ρ cs N e hi hN => ?_) (fun ρ cs h => hd ρ cs (by rw [List.length_map] at h; exact h))
  rw [List.getElem?_map] at e
  obtain ⟨a, e1, rfl⟩ := Option.map_eq_some_iff.mp e
  exact hs i a ρ cs N e1 hi hN
theorem r_cfm {gd : WG} {R : List D → Cs → Prop} {l : List α} {g : α → D} (p : α → Bool) (f : α → D)
    (hs : ∀ a (N : DP) (N' : Cs → Prop), a ∈ l → (p a = true → N (f a) cs) → (p a = false → N' cs) → gd (g a) ρ fun ρ1 => wt ρ1 cs (fun b cs1 => (b = true → we ρ1 cs1 N Z0) ∧ (b = false → N' cs1)) Z0)
    (hd : R ((l.filter p).map f) cs) : compW gd wt we (l.map g) ρ cs [] R := by
  refine r_comp0 (fun i acc cs' => acc = ((l.take i).filter p).map f ∧ cs' = cs) ⟨rfl, rfl⟩ ?_ ?_
  · rintro i d acc cs' N e ⟨rfl, rfl⟩ hN
    rw [List.getElem?_map] at e
    obtain ⟨a, e1, rfl⟩ := Option.map_eq_some_iff.mp e
    refine hs a _ _ (List.mem_of_getElem? e1) (fun h => hN _ _ ⟨?_, rfl⟩) (fun h => hN _ _ ⟨?_, rfl⟩)
    · rw [take_more e1, List.filter_append, List.map_append, List.filter_cons_of_pos h]; rfl
    · rw [take_more e1, List.filter_append, List.filter_cons_of_neg (by rw [h]; decide), List.filter_nil, List.append_nil]
  · rintro acc cs' ⟨rfl, rfl⟩
    rw [List.length_map, List.take_length]
    exact hd
theorem r_cm {gd : WG} {R : List D → Cs → Prop} {l : List α} {g : α → D} (f : α → D)
    (hs : ∀ a (N : DP) (N' : Cs → Prop), a ∈ l → N (f a) cs → gd (g a) ρ fun ρ1 => wt ρ1 cs (fun b cs1 => (b = true → we ρ1 cs1 N Z0) ∧ (b = false → N' cs1)) Z0)
    (hd : R (l.map f) cs) : compW gd wt we (l.map g) ρ cs [] R := by
  refine r_cfm (fun _ => true) f (fun a N N' h h1 h2 => hs a N N' h (h1 rfl)) ?_
  rw [List.filter_eq_self.mpr fun _ _ => rfl]
  exact hd
theorem r_loopE {nx bk ct : DL.Env → Cs → Prop} {rt : D → Cs → Prop} {ex : Exn → DL.Env → Cs → Prop} {gd : WG} {wb : WS} {xs : List D} (I : Nat → DL.Env → Cs → Prop) {l : List α} {g : α → D} (e : xs = l.map g) (h0 : I 0 ρ cs)
    (hs : ∀ i a ρ cs (N : DL.Env → Cs → Prop), l[i]? = some a → I i ρ cs → (∀ ρ' cs', I (i + 1) ρ' cs' → N ρ' cs') → gd (g a) ρ fun ρ1 => wb ⟨N, rt, ex, nx, N⟩ ρ1 cs)
    (hd : ∀ ρ cs, I l.length ρ cs → nx ρ cs) : loopW gd wb ⟨nx, rt, ex, bk, ct⟩ xs ρ cs := by subst e; exact r_loopL I h0 hs hd
theorem r_cmE {gd : WG} {R : List D → Cs → Prop} {xs : List D} {l : List α} {g : α → D} (e : xs = l.map g) (f : α → D)
    (hs : ∀ a (N : DP) (N' : Cs → Prop), a ∈ l → N (f a) cs → gd (g a) ρ fun ρ1 => wt ρ1 cs (fun b cs1 => (b = true → we ρ1 cs1 N Z0) ∧ (b = false → N' cs1)) Z0)
    (hd : R (l.map f) cs) : compW gd wt we xs ρ cs [] R := by subst e; exact r_cm f hs hd
theorem r_zip {w : WA} {Z : XZ} {R : List D → Cs → Prop} (h : w ρ cs (fun ds cs1 => match ds with | [.lst xs, .lst ys] => R (List.zipWith (fun d e => D.tup [d, e]) xs ys) cs1 | [.tup xs, .tup ys] => R (List.zipWith (fun d e => D.tup [d, e]) xs ys) cs1 | _ => False) Z) : iZp w ρ cs R Z := h
end
section
variable {p q : Addr} {m : MO} {cs cs' : Cs}
theorem BagIn.ne (h : BagIn p cs) (hq : q ∉ adr cs) : p ≠ q := fun z => by
  obtain ⟨b, e, _⟩ := h
  exact hq (z ▸ List.mem_map.mpr ⟨(p, b), look_mem e, rfl⟩)
theorem BagIn.over (hn : p ≠ q) (h : BagIn p cs) : BagIn p ((q, m) :: cs) := by
  obtain ⟨b, e, hb⟩ := h
  exact ⟨b, by unfold look; rw [if_neg (Ne.symm hn)]; exact e, hb⟩
end
/-- weights: a list or a tuple -/
def WD (wd : D) (ws : List Int) : Prop := wd = .lst (ws.map D.int) ∨ wd = .tup (ws.map D.int)
theorem WD.l (ws : List Int) : WD (.lst (ws.map D.int)) ws := .inl rfl
theorem WD.t (ws : List Int) : WD (.tup (ws.map D.int)) ws := .inr rfl
theorem r_lenW {wd : D} {ws : List Int} (h : WD wd ws) {cs : Cs} {P : DP} (hq : P (.int (ws.length : Int)) cs) : oLen [wd] cs P := by
  rcases h with rfl | rfl
  · exact r_lenL (by rw [List.length_map]; exact hq)
  · exact r_lenT (by rw [List.length_map]; exact hq)
theorem r_sumW {wd : D} {ws : List Int} (h : WD wd ws) {cs : Cs} {P : DP} (hq : P (.int ws.sum) cs) : oSumA [wd] cs P := by
  rcases h with rfl | rfl
  · exact ⟨ws, .inl rfl, hq⟩
  · exact ⟨ws, .inr rfl, hq⟩
/-- the sizes of rows of n things -/
structure SzOk (zs : List Int) (n : Nat) : Prop where
  pos : ∀ z ∈ zs, 1 ≤ z
  sum : zs.sum = n
theorem SzOk.pre_le {zs : List Int} {n : Nat} (h : SzOk zs n) (i : Nat) : preS zs i ≤ n := by rw [← h.sum]; exact preS_le h.pos i
theorem SzOk.len {zs : List Int} {n : Nat} (h : SzOk zs n) : zs.length ≤ n := by
  have := len_le_sum h.pos
  have := h.sum
  omega
theorem r_flatB {k : Bool} {A : Prop} (h : A) : flatD (.bl k) = true ∧ A := ⟨rfl, h⟩
end DL
namespace DL
open PySem PySem.Spec PyProof.Rows L2
/-- what stands in a list, data or changing -/
def lstOf (cs : Cs) : D → Option (List D)
  | .lst xs => some xs
  | .opq (.ref p) => (match look p cs with
    | some (.lst xs) => some xs
    | _ => none)
  | _ => none
theorem lstOf_m {cs : Cs} {p : Addr} {xs : List D} (h : look p cs = some (.lst xs)) : lstOf cs (.opq (.ref p)) = some xs := by
  unfold lstOf
  simp only [h]
theorem lstOf_h {cs : Cs} {p : Addr} {xs : List D} : lstOf ((p, .lst xs) :: cs) (.opq (.ref p)) = some xs := lstOf_m look_hd
section
variable {X : Cx} {W : WX} {K : PySem.W.Frag} {σ : L2.St} {H : Hp} {a b : Expr} {wa wb : DL.WE} {pos : Pos}
theorem lstOf_sq {F G0 : Hp} {cs : Cs} {x : V} {d : D} {xs : List D} (s : Sta K F G0 cs H) (r : Rep K (pur F cs H) x d) (h : lstOf cs d = some xs) : ∃ p vs, x = .ref p ∧ SqL K H p vs ∧ RepL K (pur F cs H) vs xs := by
  cases d <;> try (cases h)
  · cases r with
    | lst h r => exact ⟨_, _, rfl, ex_l pur_le h, r⟩
  · rename_i v
    cases v <;> try (cases h)
    rename_i p
    cases r
    have h' : (match look p cs with
      | some (.lst xs) => some xs
      | _ => none) = some xs := h
    split at h'
    · rename_i ys e
      cases h'
      obtain ⟨vs, e1, e2⟩ := lst_at s e
      exact ⟨p, vs, rfl, SqL.of e1, e2⟩
    · cases h'
def rCatQ (K : PySem.W.Frag) : R2 := fun x y H Q => ∃ a b xs ys, x = .ref a ∧ y = .ref b ∧ SqL K H a xs ∧ SqL K H b ys ∧ xs.length + ys.length ≤ sizeLine ∧ ∀ p, H p = none → Q (.ref p) (upd H p (.lst (xs ++ ys)))
theorem op_catQ : OpR X (binaryOp .Add) (rCatQ X.K) := by
  intro pins s σ H x y v u Q I rx ry h
  obtain ⟨l, b, xs, zs, rfl, rfl, hH, hB, hz, q⟩ := h
  cases rx
  cases ry
  obtain ⟨its, r, pl, _⟩ := I.list hH
  obtain ⟨its2, r2, pl2, _⟩ := I.list hB
  obtain ⟨⟨cls, dd, data, sl⟩, n, ho, hc, hdd, hd⟩ := pl
  obtain ⟨⟨cls2, dd2, data2, sl2⟩, n2, ho2, hc2, hdd2, hd2⟩ := pl2
  simp only at hc hd hc2 hd2
  subst hc hd hc2 hd2
  have l1 := r.length
  have l2 := r2.length
  refine concat_meets ⟨_, ho, rfl⟩ ⟨_, ho2, rfl⟩ noFill_list_add seq_list_add PySem.F.slot_list_add PySem.F.entry_list_add (PySem.F.args_list_add_2 _ _) (list_addW l b its.toArray its2.toArray n n2 dd dd2 sl sl2 (by rw [List.size_toArray, List.size_toArray]; omega)) ⟨ho, ho2, ?_⟩
  have ea : its.toArray ++ its2.toArray = (its ++ its2).toArray := by simp
  rw [ea]
  exact ⟨.ref _, _, I.lnew (t' := s.toks) (r.append r2) (by rw [List.length_append]; omega), rfl, q _ I.fresh⟩
def oCatL : DO2 := fun x y cs P => ∃ xs ys, lstOf cs x = some xs ∧ lstOf cs y = some ys ∧ xs.length + ys.length ≤ 100000 ∧ P (.lst (xs ++ ys)) cs
def oCatM : DO2 := fun x y cs P => ∃ xs ys, lstOf cs x = some xs ∧ lstOf cs y = some ys ∧ xs.length + ys.length ≤ 100000 ∧ ∀ p, p ∉ adr cs → P (.opq (.ref p)) ((p, .lst (xs ++ ys)) :: cs)
theorem adq_catL : Adq K (rCatQ K) oCatL := fun F cs H x y dx dy P Q s rx ry ho pe => by
  obtain ⟨xs, ys, e1, e2, hl, h⟩ := ho
  obtain ⟨p, vs, rfl, h1, r1⟩ := lstOf_sq s rx e1
  obtain ⟨q, us, rfl, h2, r2⟩ := lstOf_sq s ry e2
  refine ⟨_, _, _, _, rfl, rfl, h1, h2, by rw [r1.length, r2.length]; exact Nat.le_trans hl (by decide), fun p hp => ?_⟩
  obtain ⟨s2, e2⟩ := s.new (o := .lst (vs ++ us)) hp
  exact pe _ cs _ _ s2 (.lst (SqL.of e2) ((r1.append r2).mono s2.gr)) h
theorem d_catL (ha : DE X W a wa) (hb : DE X W b wb) : DE X W (.BinOp a .Add b pos) (wOp oCatL wa wb) := d_op op_catQ adq_catL ha hb
def oLenX : DOn := fun ds cs P => ∃ d xs, ds = [d] ∧ lstOf cs d = some xs ∧ P (.int (xs.length : Int)) cs
def oListX : DOn := fun ds cs P => ∃ d xs, ds = [d] ∧ (lstOf cs d = some xs ∨ d = .tup xs) ∧ P (.lst xs) cs
def oListM : DOn := fun ds cs P => ∃ d xs, ds = [d] ∧ (lstOf cs d = some xs ∨ d = .tup xs) ∧ ∀ p, p ∉ adr cs → P (.opq (.ref p)) ((p, .lst xs) :: cs)
def oTupX : DOn := fun ds cs P => ∃ d xs, ds = [d] ∧ (lstOf cs d = some xs ∨ d = .tup xs) ∧ P (.tup xs) cs
def oMin2 : DOn := fun ds cs P => ∃ i j, ds = [.int i, .int j] ∧ P (.int (if j < i then j else i)) cs
def oMax2 : DOn := fun ds cs P => ∃ i j, ds = [.int i, .int j] ∧ P (.int (if i < j then j else i)) cs
end
section
variable {cs : Cs} {P : DP} {d e : D} {xs ys : List D} {p : Addr}
theorem r_catLL (hl : xs.length + ys.length ≤ 100000) (h : P (.lst (xs ++ ys)) cs) : oCatL (.lst xs) (.lst ys) cs P := ⟨xs, ys, rfl, rfl, hl, h⟩
theorem r_catML (hl : xs.length + ys.length ≤ 100000) (h : ∀ p, p ∉ adr cs → P (.opq (.ref p)) ((p, .lst (xs ++ ys)) :: cs)) : oCatM (.lst xs) (.lst ys) cs P := ⟨xs, ys, rfl, rfl, hl, h⟩
theorem r_lenH (h : P (.int (xs.length : Int)) ((p, .lst xs) :: cs)) : oLenX [.opq (.ref p)] ((p, .lst xs) :: cs) P := ⟨_, xs, rfl, lstOf_h, h⟩
theorem r_lenXL (h : P (.int (xs.length : Int)) cs) : oLenX [.lst xs] cs P := ⟨_, xs, rfl, rfl, h⟩
theorem r_tupH (h : P (.tup xs) ((p, .lst xs) :: cs)) : oTupX [.opq (.ref p)] ((p, .lst xs) :: cs) P := ⟨_, xs, rfl, .inl lstOf_h, h⟩
theorem r_tupXL (h : P (.tup xs) cs) : oTupX [.lst xs] cs P := ⟨_, xs, rfl, .inl rfl, h⟩
theorem r_tupXT (h : P (.tup xs) cs) : oTupX [.tup xs] cs P := ⟨_, xs, rfl, .inr rfl, h⟩
theorem r_listXH (h : P (.lst xs) ((p, .lst xs) :: cs)) : oListX [.opq (.ref p)] ((p, .lst xs) :: cs) P := ⟨_, xs, rfl, .inl lstOf_h, h⟩
theorem r_listXL (h : P (.lst xs) cs) : oListX [.lst xs] cs P := ⟨_, xs, rfl, .inl rfl, h⟩
theorem r_listXT (h : P (.lst xs) cs) : oListX [.tup xs] cs P := ⟨_, xs, rfl, .inr rfl, h⟩
theorem r_listML (h : ∀ p, p ∉ adr cs → P (.opq (.ref p)) ((p, .lst xs) :: cs)) : oListM [.lst xs] cs P := ⟨_, xs, rfl, .inl rfl, h⟩
theorem r_listMT (h : ∀ p, p ∉ adr cs → P (.opq (.ref p)) ((p, .lst xs) :: cs)) : oListM [.tup xs] cs P := ⟨_, xs, rfl, .inr rfl, h⟩
theorem r_min2 {i j : Int} (h : P (.int (if j < i then j else i)) cs) : oMin2 [.int i, .int j] cs P := ⟨_, _, rfl, h⟩
theorem r_max2 {i j : Int} (h : P (.int (if i < j then j else i)) cs) : oMax2 [.int i, .int j] cs P := ⟨_, _, rfl, h⟩
theorem r_sumL {ns : List Int} (h : P (.int ns.sum) cs) : oSumA [.lst (ns.map D.int)] cs P := ⟨ns, .inl rfl, h⟩
theorem r_sumT {ns : List Int} (h : P (.int ns.sum) cs) : oSumA [.tup (ns.map D.int)] cs P := ⟨ns, .inr rfl, h⟩
end
section
variable {X : Cx} {W : WX} {K : PySem.W.Frag} {σ : L2.St} {H : Hp} {a e : Expr} {wa : DL.WE} {w : WA} {cpos apos : Pos}
def oClear : DMt := fun x ds cs P => ∃ p xs, x = .opq (.ref p) ∧ ds = [] ∧ look p cs = some (.lst xs) ∧ P .non (put p (.lst []) cs)
theorem r_clearH {cs : Cs} {P : DP} {p : Addr} {xs : List D} (h : P .non ((p, .lst []) :: cs)) : oClear (.opq (.ref p)) [] ((p, .lst xs) :: cs) P := ⟨p, xs, rfl, rfl, look_hd, by rw [put_hd]; exact h⟩
theorem RepL.erase {G : Hp} : ∀ {vs : List V} {ds : List D} (n : Nat), RepL K G vs ds → RepL K G (vs.eraseIdx n) (ds.eraseIdx n)
  | _, _, _, .nil => .nil
  | _, _, 0, .cons _ r => r
  | _, _, n + 1, .cons h r => .cons h (r.erase n)
end
end DL
namespace DL
open PySem PySem.Spec PyProof.Rows L2
end DL
namespace DL
open PySem PySem.Spec PyProof.Rows L2
section
variable {X : Cx} {W : WX} {K : PySem.W.Frag} {σ : L2.St} {H : Hp} {pos : Pos}
def gStar (g1 g2 : WG) : WG := fun d ρ k => match d with
  | .lst (x :: xs) => g1 x ρ fun ρ1 => g2 (.lst xs) ρ1 k
  | _ => False
theorem r_gStar {g1 g2 : WG} {x : D} {xs : List D} {ρ : DL.Env} {k : DL.Env → Prop} (h : g1 x ρ fun ρ1 => g2 (.lst xs) ρ1 k) : gStar g1 g2 (.lst (x :: xs)) ρ k := h
def oSlAny : D → Option Int → Option Int → Cs → DP → Prop := fun x lo hi cs P => match x with
  | .lst xs => P (.lst (DL.cutD xs lo hi)) cs
  | .tup xs => P (.tup (DL.cutD xs lo hi)) cs
  | _ => False
theorem r_slAL {xs : List D} {lo hi : Option Int} {cs : Cs} {P : DP} (h : P (.lst (DL.cutD xs lo hi)) cs) : oSlAny (.lst xs) lo hi cs P := h
theorem r_slAT {xs : List D} {lo hi : Option Int} {cs : Cs} {P : DP} (h : P (.tup (DL.cutD xs lo hi)) cs) : oSlAny (.tup xs) lo hi cs P := h
def wGone (we : DL.WE) : DL.WE := fun ρ cs P Z => we ρ cs (fun d cs1 => ∃ p, P d (del p cs1)) Z
theorem r_gone {we : DL.WE} {ρ : DL.Env} {cs : Cs} {P : DP} {Z : XZ} (h : we ρ cs (fun d cs1 => ∃ p, P d (del p cs1)) Z) : wGone we ρ cs P Z := h
theorem r_goneH {p : Addr} {m : MO} {cs : Cs} {P : DP} {d : D} (h : P d cs) : ∃ p', P d (del p' ((p, m) :: cs)) := ⟨p, by rw [del_hd]; exact h⟩
end
end DL
namespace DL
open PySem PySem.Spec PyProof.Rows L2
def mxR (m y : Rat) : Rat := if m < y then y else m
def maxL : List Rat → Rat
  | [] => 0
  | x :: xs => xs.foldl mxR x
structure IsMax (m : Rat) (l : List Rat) : Prop where
  mem : m ∈ l
  le : ∀ y ∈ l, y ≤ m
theorem IsMax.uniq {m m' : Rat} {l : List Rat} (h : IsMax m l) (h' : IsMax m' l) : m = m' := Rat.le_antisymm (h'.le m h.mem) (h.le m' h'.mem)
theorem atD_zero (x : D) (xs : List D) : atD (x :: xs) 0 = some x := atI_nat (j := 0) rfl
theorem r_ix0 {x : D} {xs : List D} {cs : Cs} {P : DP} (h : P x cs) : oIx (.lst (x :: xs)) (.int 0) cs P := r_ixL (atD_zero x xs) h
theorem r_ix0T {x : D} {xs : List D} {cs : Cs} {P : DP} (h : P x cs) : oIx (.tup (x :: xs)) (.int 0) cs P := r_ixT (atD_zero x xs) h
theorem mxR_or (m y : Rat) : mxR m y = m ∨ mxR m y = y := by
  unfold mxR
  split
  · exact .inr rfl
  · exact .inl rfl
def rsh (b : Bx) (dn : Bool) (S W w : Int) : Rat := shapeR ((if dn then b.h else b.w) * Rat.divInt S W) ((if dn then b.w else b.h) * Rat.divInt w S)
def rowShape (b : Bx) (dn : Bool) (ws : List Int) (i n : Nat) : Rat := maxL (((ws.drop i).take n).map (rsh b dn ((ws.drop i).take n).sum ws.sum))
theorem SzOk.at_ {zs : List Int} {n : Nat} (h : SzOk zs n) {i : Nat} {z : Int} (hz : zs[i]? = some z) : 1 ≤ z.toNat ∧ (preS zs i).toNat + z.toNat ≤ n ∧ 1 ≤ z ∧ 0 ≤ preS zs i ∧ preS zs i + z ≤ n := by
  have h1 := preS_nonneg h.pos i
  have h2 := h.pre_le (i + 1)
  have h3 := h.pos z (List.mem_of_getElem? hz)
  rw [preS_succ hz] at h2
  omega
theorem SzOk.ne {zs : List Int} {n : Nat} (h : SzOk zs n) (hn : 1 ≤ n) : 0 < zs.length := by
  cases zs with
  | nil => have := h.sum; simp at this; omega
  | cons _ _ => simp
end DL
namespace DL
open PySem PySem.Spec PyProof.Rows L2
def absR (x : Rat) : Rat := if x < 0 then -x else x
theorem Sz.absR {n : Nat} {x : Rat} (h : Sz n x) : Sz n (absR x) := by
  unfold DL.absR
  split
  · exact h.neg
  · exact h
end DL
namespace DL
open PySem PySem.Spec PyProof.Rows L2
theorem ref_inj {o : Option Value} {a b : Addr} (h1 : o = some (.ref a)) (h2 : o = some (.ref b)) : a = b := by
  rw [h1] at h2
  cases h2
  rfl
def sp_law : DSp := fun ds cs P _ => ∃ ns : List Int, ds = [.lst (ns.map D.int)] ∧ ns.length ≤ 63 ∧ cs = [] ∧ ∀ cs', P (.bl true) cs'
theorem calmF {P : Program} {w : World} {K : PySem.W.Frag} {mg : Str → Option Value} {base : Heap} {k : Nat} {f : Addr} {fd : FuncData} {ps : List Str} {sp : Sp} (h : FnOk P w K mg base (L2.CX P w) k f fd ps sp) :
    FnOk P w K mg base CX0 k f fd ps (fun vs H Q _ => sp vs H Q fun _ _ _ => False) := by
  refine ⟨fun vs H Q E q => h.len vs H Q _ q, fun A outer s H args us vs Q E hr e0 hb r q => ?_⟩
  refine codeAny_mono (h.run A outer s H args us vs Q (fun _ _ _ => False) hr e0 hb r q) fun r s' hq => ?_
  cases r with
  | error e =>
    obtain ⟨_, _, _, _, _, _, _, _, _, _, _, _, z⟩ := hq
    exact z.elim
  | ok fl => cases fl <;> exact hq
end DL
namespace DL
open PySem PySem.Spec PyProof.Rows L2
section
variable {κ : Type} [DecidableEq κ] {α : Type}
/-- what a table holds at k -/
def lk (kvs : List (κ × α)) (k : κ) : Option α := match kvs with
  | [] => none
  | p :: r => if p.1 = k then some p.2 else lk r k
/-- a table with k at v -/
def putD (kvs : List (κ × α)) (k : κ) (v : α) : List (κ × α) :=
  if (lk kvs k).isSome = true then kvs.map fun p => (p.1, if p.1 = k then v else p.2) else kvs ++ [(k, v)]
theorem look_pos {p : κ × α} {r : List (κ × α)} {k : κ} (e : p.1 = k) : lk (p :: r) k = some p.2 := by
  rw [lk, if_pos e]
theorem look_neg {p : κ × α} {r : List (κ × α)} {k : κ} (e : ¬ p.1 = k) : lk (p :: r) k = lk r k := by
  rw [lk, if_neg e]
/-- a table made of a list: by a key that is one's own -/
theorem look_map {γ : Type} (f : γ → κ) (g : γ → α) (x : γ) : ∀ (l : List γ), x ∈ l → (∀ y ∈ l, f y = f x → y = x) → lk (l.map fun y => (f y, g y)) (f x) = some (g x)
  | [], h, _ => by cases h
  | y :: r, h, hi => by
    rw [List.map_cons]
    by_cases e : f y = f x
    · rw [look_pos (p := (f y, g y)) e, hi y (List.mem_cons_self ..) e]
    · rw [look_neg (p := (f y, g y)) e]
      refine look_map f g x r ?_ fun z hz => hi z (List.mem_cons_of_mem _ hz)
      rcases List.mem_cons.mp h with q | q
      · exact absurd (by rw [q]) e
      · exact q
end
inductive RG (K : PySem.W.Frag) (G : Hp) {κ : Type} : List (κ × V) → List (κ × D) → Prop
  | nil : RG K G [] []
  | cons {k : κ} {v : V} {vs : List (κ × V)} {d : D} {ds : List (κ × D)} : Rep K G v d → RG K G vs ds → RG K G ((k, v) :: vs) ((k, d) :: ds)
def RepQ (K : PySem.W.Frag) (G : Hp) : Option V → Option D → Prop
  | none, none => True
  | some v, some d => Rep K G v d
  | _, _ => False
section
variable {K : PySem.W.Frag} {G G' : Hp} {κ : Type} [DecidableEq κ]
theorem RepK.rg : ∀ {xs : List (Key × V)} {ds : List (Key × D)}, RepK K G xs ds → RG K G xs ds
  | _, _, .nil => .nil
  | _, _, .cons h r => .cons h r.rg
theorem RepT.rg : ∀ {xs : List (List Key × V)} {ds : List (List Key × D)}, RepT K G xs ds → RG K G xs ds
  | _, _, .nil => .nil
  | _, _, .cons h r => .cons h r.rg
theorem RG.rt {xs : List (List Key × V)} {ds : List (List Key × D)} (h : RG K G xs ds) : RepT K G xs ds := by
  induction h with
  | nil => exact .nil
  | cons h _ ih => exact .cons h ih
theorem RG.mono (e : Ex G G') {xs : List (κ × V)} {ds : List (κ × D)} (h : RG K G xs ds) : RG K G' xs ds := by
  induction h with
  | nil => exact .nil
  | cons h _ ih => exact .cons (h.mono e) ih
theorem RG.length {xs : List (κ × V)} {ds : List (κ × D)} (h : RG K G xs ds) : xs.length = ds.length := by
  induction h with
  | nil => rfl
  | cons _ _ ih => rw [List.length_cons, List.length_cons, ih]
theorem RG.val {xs : List (κ × V)} {ds : List (κ × D)} (h : RG K G xs ds) (k : κ) : RepQ K G (valV xs k) (lk ds k) := by
  induction h with
  | nil => exact True.intro
  | @cons j v vs d ds hr _ ih =>
    by_cases e : j = k
    · rw [valV_pos (p := (j, v)) e, look_pos (p := (j, d)) e]; exact hr
    · rw [valV_neg (p := (j, v)) e, look_neg (p := (j, d)) e]; exact ih
theorem RG.app {xs ys : List (κ × V)} {ds es : List (κ × D)} (h : RG K G xs ds) (h2 : RG K G ys es) : RG K G (xs ++ ys) (ds ++ es) := by
  induction h with
  | nil => exact h2
  | cons h _ ih => exact .cons h ih
theorem RG.put {xs : List (κ × V)} {ds : List (κ × D)} (h : RG K G xs ds) (k : κ) {v : V} {d : D} (r : Rep K G v d) : RG K G (putK xs k v) (putD ds k d) := by
  have q := h.val k
  unfold putK putD
  rw [valV_any]
  have e : (valV xs k).isSome = (lk ds k).isSome := by
    revert q
    cases valV xs k <;> cases lk ds k <;> intro q <;> first | rfl | exact (show False from q).elim
  rw [e]
  by_cases a : (lk ds k).isSome = true
  · rw [if_pos a, if_pos a]
    clear q e a
    induction h with
    | nil => exact .nil
    | @cons j v' vs d' ds hr _ ih =>
      rw [List.map_cons, List.map_cons]
      by_cases z : j = k
      · have e1 : (if (j, v').1 = k then ((j, v').1, v) else (j, v')) = (j, v) := if_pos z
        have e2 : ((j, d').1, if (j, d').1 = k then d else (j, d').2) = (j, d) := by rw [if_pos z]
        rw [e1, e2]; exact .cons r ih
      · have e1 : (if (j, v').1 = k then ((j, v').1, v) else (j, v')) = (j, v') := if_neg z
        have e2 : ((j, d').1, if (j, d').1 = k then d else (j, d').2) = (j, d') := by rw [if_neg z]
        rw [e1, e2]; exact .cons hr ih
  · rw [if_neg a, if_neg a]
    exact h.app (.cons r .nil)
theorem RG.get {xs : List (κ × V)} {ds : List (κ × D)} (h : RG K G xs ds) : ∀ {i : Nat} {k : κ} {d : D}, ds[i]? = some (k, d) → ∃ v, xs[i]? = some (k, v) ∧ Rep K G v d := by
  induction h with
  | nil => intro i k d e; simp at e
  | @cons j v vs d' ds hr _ ih =>
    intro i k d e
    cases i with
    | zero =>
      simp at e
      obtain ⟨rfl, rfl⟩ := e
      exact ⟨v, rfl, hr⟩
    | succ i => simpa using ih (by simpa using e)
theorem RepQ.isSome {o : Option V} {d : Option D} (h : RepQ K G o d) : o.isSome = d.isSome := by
  cases o <;> cases d <;> first | rfl | exact (show False from h).elim
theorem RepQ.getD {o : Option V} {d : Option D} {v : V} {e : D} (h : RepQ K G o d) (r : Rep K G v e) : Rep K G (o.getD v) (d.getD e) := by
  cases o <;> cases d <;> first | exact r | exact h | exact (show False from h).elim
end
def kD : Key → D
  | .inl i => .int i
  | .inr x => .str x
def kOf : D → Option Key
  | .int i => some (.inl i)
  | .str x => some (.inr x)
  | _ => none
def ksOf : List D → Option (List Key)
  | [] => some []
  | d :: r => match kOf d, ksOf r with
    | some k, some ks => some (k :: ks)
    | _, _ => none
abbrev DD := List (Key × D) ⊕ List (List Key × D)
def ddAt (x : D) (cs : Cs) : Option DD := match x with
  | .dic kvs => some (.inl kvs)
  | .dct kvs => some (.inr kvs)
  | .opq (.ref p) => (match look p cs with
    | some (.dic kvs) => some (.inl kvs)
    | some (.dct kvs) => some (.inr kvs)
    | _ => none)
  | _ => none
def getV (x y : D) (cs : Cs) : Option (Option D) := match ddAt x cs with
  | some (.inl kvs) => (kOf y).map fun k => lk kvs k
  | some (.inr kvs) => (match y with
    | .tup ds => (ksOf ds).map fun ks => lk kvs ks
    | _ => none)
  | none => none
def oGetD : DO2 := fun x y cs P => ∃ d, getV x y cs = some (some d) ∧ P d cs
def oInD : DO2 := fun y x cs P => ∃ o, getV x y cs = some o ∧ P (.bl o.isSome) cs
def oNotInD : DO2 := fun y x cs P => ∃ o, getV x y cs = some o ∧ P (.bl (!o.isSome)) cs
section
variable {X : Cx} {W : WX} {K : PySem.W.Frag} {σ : L2.St} {H : Hp} {a b c e : Expr} {wa wb wc we : DL.WE} {pos : Pos}
def wNewK : DL.WE := fun _ cs P _ => ∀ p, p ∉ adr cs → P (.opq (.ref p)) ((p, .dic []) :: cs)
def wNewT : DL.WE := fun _ cs P _ => ∀ p, p ∉ adr cs → P (.opq (.ref p)) ((p, .dct []) :: cs)
/-- {k: v}, the key an int or a text -/
def wOneK (wk wv : DL.WE) : DL.WE := fun ρ cs P Z => ∀ p, p ∉ adr cs → wk ρ ((p, .dic []) :: cs) (fun k cs1 => wv ρ cs1 (fun v cs2 => ∃ kk, kOf k = some kk ∧ look p cs2 = some (.dic []) ∧ P (.opq (.ref p)) (put p (.dic [(kk, v)]) cs2)) Z) Z
/-- a changing dict becomes data -/
def wLockD (we : DL.WE) : DL.WE := fun ρ cs P Z => we ρ cs (fun d cs1 => ∃ p, d = .opq (.ref p) ∧ ((∃ kvs, look p cs1 = some (.dic kvs) ∧ P (.dic kvs) (del p cs1)) ∨ ∃ kvs, look p cs1 = some (.dct kvs) ∧ P (.dct kvs) (del p cs1))) Z
def oSetDK : DSet := fun o i v cs Q => match o with
  | .opq (.ref p) => (match look p cs with
    | some (.dic ds) => ∃ k, kOf i = some k ∧ ds.length < 100000 ∧ Q (put p (.dic (putD ds k v)) cs)
    | _ => False)
  | _ => False
/-- d[(a, ..)] = v -/
def oSetDT (p : D) (ds : List D) (v : D) (cs : Cs) (Q : Cs → Prop) : Prop := match p with
  | .opq (.ref p) => (match look p cs with
    | some (.dct xs) => ∃ ks, ksOf ds = some ks ∧ xs.length < 100000 ∧ Q (put p (.dct (putD xs ks v)) cs)
    | _ => False)
  | _ => False
def sSetT (wv wo : DL.WE) (w : WA) : WS := fun f ρ cs => wv ρ cs (fun v cs1 => wo ρ cs1 (fun x cs2 => w ρ cs2 (fun ds cs3 => oSetDT x ds v cs3 fun cs4 => f.nx ρ cs4) (fun x cs1 => f.ex x ρ cs1)) (fun x cs1 => f.ex x ρ cs1)) (fun x cs1 => f.ex x ρ cs1)
end
section
variable {ρ : DL.Env} {cs : Cs} {P : DP} {Z : XZ} {we wv wo wi wk : DL.WE} {w : WA} {d : D} {p : Addr} {i j : Int} {x : Str} {kvs : List (Key × D)} {kts : List (List Key × D)} {R : Cs → Prop}
theorem r_getKI (h1 : lk kvs (.inl i) = some d) (h : P d cs) : oGetD (.dic kvs) (.int i) cs P := ⟨d, by simp [getV, ddAt, kOf, h1], h⟩
theorem r_getKS (h1 : lk kvs (.inr x) = some d) (h : P d cs) : oGetD (.dic kvs) (.str x) cs P := ⟨d, by simp [getV, ddAt, kOf, h1], h⟩
theorem r_getT2 (h1 : lk kts [.inl i, .inl j] = some d) (h : P d cs) : oGetD (.dct kts) (.tup [.int i, .int j]) cs P := ⟨d, by simp [getV, ddAt, kOf, ksOf, h1], h⟩
theorem r_getMI (hl : look p cs = some (.dic kvs)) (h1 : lk kvs (.inl i) = some d) (h : P d cs) : oGetD (.opq (.ref p)) (.int i) cs P := ⟨d, by simp [getV, ddAt, hl, kOf, h1], h⟩
theorem r_getMS (hl : look p cs = some (.dic kvs)) (h1 : lk kvs (.inr x) = some d) (h : P d cs) : oGetD (.opq (.ref p)) (.str x) cs P := ⟨d, by simp [getV, ddAt, hl, kOf, h1], h⟩
theorem r_getMT2 (hl : look p cs = some (.dct kts)) (h1 : lk kts [.inl i, .inl j] = some d) (h : P d cs) : oGetD (.opq (.ref p)) (.tup [.int i, .int j]) cs P := ⟨d, by simp [getV, ddAt, hl, kOf, ksOf, h1], h⟩
theorem r_inKI (h : P (.bl (lk kvs (.inl i)).isSome) cs) : oInD (.int i) (.dic kvs) cs P := ⟨_, by simp [getV, ddAt, kOf], h⟩
theorem r_inKS (h : P (.bl (lk kvs (.inr x)).isSome) cs) : oInD (.str x) (.dic kvs) cs P := ⟨_, by simp [getV, ddAt, kOf], h⟩
theorem r_inT2 (h : P (.bl (lk kts [.inl i, .inl j]).isSome) cs) : oInD (.tup [.int i, .int j]) (.dct kts) cs P := ⟨_, by simp [getV, ddAt, kOf, ksOf], h⟩
theorem r_inMI (hl : look p cs = some (.dic kvs)) (h : P (.bl (lk kvs (.inl i)).isSome) cs) : oInD (.int i) (.opq (.ref p)) cs P := ⟨_, by simp [getV, ddAt, hl, kOf], h⟩
theorem r_inMS (hl : look p cs = some (.dic kvs)) (h : P (.bl (lk kvs (.inr x)).isSome) cs) : oInD (.str x) (.opq (.ref p)) cs P := ⟨_, by simp [getV, ddAt, hl, kOf], h⟩
theorem r_notKI (h : P (.bl (!(lk kvs (.inl i)).isSome)) cs) : oNotInD (.int i) (.dic kvs) cs P := ⟨_, by simp [getV, ddAt, kOf], h⟩
theorem r_notKS (h : P (.bl (!(lk kvs (.inr x)).isSome)) cs) : oNotInD (.str x) (.dic kvs) cs P := ⟨_, by simp [getV, ddAt, kOf], h⟩
theorem r_notMI (hl : look p cs = some (.dic kvs)) (h : P (.bl (!(lk kvs (.inl i)).isSome)) cs) : oNotInD (.int i) (.opq (.ref p)) cs P := ⟨_, by simp [getV, ddAt, hl, kOf], h⟩
theorem r_notMS (hl : look p cs = some (.dic kvs)) (h : P (.bl (!(lk kvs (.inr x)).isSome)) cs) : oNotInD (.str x) (.opq (.ref p)) cs P := ⟨_, by simp [getV, ddAt, hl, kOf], h⟩
theorem r_newK (h : ∀ p, p ∉ adr cs → P (.opq (.ref p)) ((p, .dic []) :: cs)) : wNewK ρ cs P Z := h
theorem r_newT (h : ∀ p, p ∉ adr cs → P (.opq (.ref p)) ((p, .dct []) :: cs)) : wNewT ρ cs P Z := h
theorem r_oneK (h : ∀ p, p ∉ adr cs → wk ρ ((p, .dic []) :: cs) (fun k cs1 => wv ρ cs1 (fun v cs2 => ∃ kk, kOf k = some kk ∧ look p cs2 = some (.dic []) ∧ P (.opq (.ref p)) (put p (.dic [(kk, v)]) cs2)) Z) Z) : wOneK wk wv ρ cs P Z := h
theorem r_lockD (h : we ρ cs (fun d cs1 => ∃ p, d = .opq (.ref p) ∧ ((∃ kvs, look p cs1 = some (.dic kvs) ∧ P (.dic kvs) (del p cs1)) ∨ ∃ kvs, look p cs1 = some (.dct kvs) ∧ P (.dct kvs) (del p cs1))) Z) : wLockD we ρ cs P Z := h
theorem r_setKI (hz : kvs.length < 100000) (h : R ((p, .dic (putD kvs (.inl i) d)) :: cs)) : oSetDK (.opq (.ref p)) (.int i) d ((p, .dic kvs) :: cs) R := by
  unfold oSetDK; simp only [look, if_true]; exact ⟨.inl i, rfl, hz, by rw [put_hd]; exact h⟩
theorem r_setKS (hz : kvs.length < 100000) (h : R ((p, .dic (putD kvs (.inr x) d)) :: cs)) : oSetDK (.opq (.ref p)) (.str x) d ((p, .dic kvs) :: cs) R := by
  unfold oSetDK; simp only [look, if_true]; exact ⟨.inr x, rfl, hz, by rw [put_hd]; exact h⟩
theorem r_setT2 (hz : kts.length < 100000) (h : R ((p, .dct (putD kts [.inl i, .inl j] d)) :: cs)) : oSetDT (.opq (.ref p)) [.int i, .int j] d ((p, .dct kts) :: cs) R := by
  unfold oSetDT; simp only [look, if_true]; exact ⟨[.inl i, .inl j], rfl, hz, by rw [put_hd]; exact h⟩
section
variable {nx bk ct : DL.Env → Cs → Prop} {rt : D → Cs → Prop} {ex : Exn → DL.Env → Cs → Prop}
theorem q_setDK (h : wv ρ cs (fun v cs1 => wo ρ cs1 (fun x cs2 => wi ρ cs2 (fun i cs3 => oSetDK x i v cs3 fun cs4 => nx ρ cs4) (fun x cs1 => ex x ρ cs1)) (fun x cs1 => ex x ρ cs1)) (fun x cs1 => ex x ρ cs1)) : sSetIx wv wo wi oSetDK ⟨nx, rt, ex, bk, ct⟩ ρ cs := h
theorem q_setDT (h : wv ρ cs (fun v cs1 => wo ρ cs1 (fun x cs2 => w ρ cs2 (fun ds cs3 => oSetDT x ds v cs3 fun cs4 => nx ρ cs4) (fun x cs1 => ex x ρ cs1)) (fun x cs1 => ex x ρ cs1)) (fun x cs1 => ex x ρ cs1)) : sSetT wv wo w ⟨nx, rt, ex, bk, ct⟩ ρ cs := h
end
end
section
variable {ρ : DL.Env} {cs : Cs} {Z : XZ} {wa wb : DL.WE}
theorem r_rg2 {R : List D → Cs → Prop} (h : wa ρ cs (fun x cs1 => wb ρ cs1 (fun y cs2 => match x, y with | .int i, .int j => (-(2 ^ 62) ≤ i ∧ i < 2 ^ 62 ∧ -(2 ^ 62) ≤ j ∧ j < 2 ^ 62) ∧ R (rngD i (j - i).toNat) cs2 | _, _ => False) Z) Z) : iRg2 (wCons wa (wCons wb wNil)) ρ cs R Z := by
  unfold iRg2 wCons wNil
  have e : (fun (x : D) (cs1 : Cs) => wb ρ cs1 (fun (y : D) (cs2 : Cs) => (match [x, y] with | [D.int i, D.int j] => (-(2 ^ 62) ≤ i ∧ i < 2 ^ 62 ∧ -(2 ^ 62) ≤ j ∧ j < 2 ^ 62) ∧ R (rngD i (j - i).toNat) cs2 | _ => False)) Z)
      = fun (x : D) (cs1 : Cs) => wb ρ cs1 (fun y cs2 => match x, y with | .int i, .int j => (-(2 ^ 62) ≤ i ∧ i < 2 ^ 62 ∧ -(2 ^ 62) ≤ j ∧ j < 2 ^ 62) ∧ R (rngD i (j - i).toNat) cs2 | _, _ => False) Z := by
    funext x cs1
    congr 1
    funext y cs2
    cases x <;> cases y <;> rfl
  rw [← e] at h
  exact h
end
end DL
namespace DL
open PySem PySem.Spec PyProof.Rows L2
section
variable {X : Cx} {W : WX} {K : PySem.W.Frag} {σ : L2.St} {H : Hp} {e : Expr} {we : DL.WE} {pos : Pos}
def iKeysD (we : DL.WE) : WI := fun ρ cs P Z => we ρ cs (fun d cs1 => match d with
  | .dic kvs => P (kvs.map fun p => kD p.1) cs1
  | .dct kvs => P (kvs.map fun p => D.tup (p.1.map kD)) cs1
  | _ => False) Z
def dcW (g : WG) (wt : WT) (wk wv : DL.WE) : List D → DL.Env → Cs → List (Key × D) → (List (Key × D) → Cs → Prop) → Prop
  | [], _, cs, acc, P => P acc cs
  | d :: r, ρ, cs, acc, P => g d ρ fun ρ1 => wt ρ1 cs (fun k cs1 => (k = true → wk ρ1 cs1 (fun y cs2 => wv ρ1 cs2 (fun z cs3 => ∃ kk, kOf y = some kk ∧ dcW g wt wk wv r ρ cs3 (putD acc kk z) P) Z0) Z0) ∧ (k = false → dcW g wt wk wv r ρ cs1 acc P)) Z0
def wDcR (wi : WI) (g : WG) (wt : WT) (wk wv : DL.WE) (vs : List Nat) (R : DP → List (Key × D) → Cs → Prop) : DL.WE := fun ρ cs P Z => wi ρ cs (fun xs cs1 => xs.length ≤ 100000 ∧ dcW g wt wk wv xs (wipeD ρ vs) cs1 [] (R P)) Z
abbrev RMK : DP → List (Key × D) → Cs → Prop := fun P ds cs2 => ∀ p, p ∉ adr cs2 → P (.opq (.ref p)) ((p, .dic ds) :: cs2)
variable {kx vx tg iter : Expr} {ifs : List Expr} {scope : Scope} {own : List (Str × Nat)} {wi : WI} {g : TG} {gd : WG} {wt : WT} {wk wv : DL.WE}
end
section
variable {X : Cx} {W : WX} {K : PySem.W.Frag} {σ : L2.St} {H : Hp} {pos : Pos}
abbrev RMT : DP → List (List Key × D) → Cs → Prop := fun P ds cs2 => ∀ p, p ∉ adr cs2 → P (.opq (.ref p)) ((p, .dct ds) :: cs2)
def dtW (g : WG) (wt : WT) (w : WA) (wv : DL.WE) : List D → DL.Env → Cs → List (List Key × D) → (List (List Key × D) → Cs → Prop) → Prop
  | [], _, cs, acc, P => P acc cs
  | d :: r, ρ, cs, acc, P => g d ρ fun ρ1 => wt ρ1 cs (fun k cs1 => (k = true → w ρ1 cs1 (fun ys cs2 => wv ρ1 cs2 (fun z cs3 => ∃ ks, ksOf ys = some ks ∧ dtW g wt w wv r ρ cs3 (putD acc ks z) P) Z0) Z0) ∧ (k = false → dtW g wt w wv r ρ cs1 acc P)) Z0
def wDtR (wi : WI) (g : WG) (wt : WT) (w : WA) (wv : DL.WE) (vs : List Nat) : DL.WE := fun ρ cs P Z => wi ρ cs (fun xs cs1 => xs.length ≤ 100000 ∧ dtW g wt w wv xs (wipeD ρ vs) cs1 [] (RMT P)) Z
/-- {x: v for x in d if test}, d a dict of tuples that is data -/
def dkW (i : Nat) (wt : WT) (wv : DL.WE) : List (List Key) → DL.Env → Cs → List (List Key × D) → (List (List Key × D) → Cs → Prop) → Prop
  | [], _, cs, acc, P => P acc cs
  | k :: r, ρ, cs, acc, P => wt (ρ.set i (some (.tup (k.map kD)))) cs (fun b cs1 => (b = true → wv (ρ.set i (some (.tup (k.map kD)))) cs1 (fun z cs2 => dkW i wt wv r ρ cs2 (putD acc k z) P) Z0) ∧ (b = false → dkW i wt wv r ρ cs1 acc P)) Z0
def wDkR (i : Nat) (we : DL.WE) (wt : WT) (wv : DL.WE) (vs : List Nat) : DL.WE := fun ρ cs P Z => we ρ cs (fun d cs1 => match d with
  | .dct kvs => kvs.length ≤ 100000 ∧ dkW i wt wv (kvs.map (·.1)) (wipeD ρ vs) cs1 [] (RMT P)
  | _ => False) Z
variable {kx vx tg iter : Expr} {ifs : List Expr} {scope : Scope} {own : List (Str × Nat)} {wi : WI} {g : TG} {gd : WG} {wt : WT} {w : WA} {wv we : DL.WE} {es : List Expr} {kt : Nat} {kp px : Pos} {x : Str} {i0 : Nat}
end
section
variable {ρ : DL.Env} {cs : Cs} {P : DP} {Z : XZ} {we wk wv : DL.WE} {wt : WT} {w : WA} {g : WG}
theorem r_keysI {R : List D → Cs → Prop} (h : we ρ cs (fun d cs1 => match d with
  | .dic kvs => R (kvs.map fun p => kD p.1) cs1
  | .dct kvs => R (kvs.map fun p => D.tup (p.1.map kD)) cs1
  | _ => False) Z) : iKeysD we ρ cs R Z := h
theorem r_dcK {wi : WI} {vs : List Nat} (h : wi ρ cs (fun xs cs1 => xs.length ≤ 100000 ∧ dcW g wt wk wv xs (wipeD ρ vs) cs1 [] (fun ds cs2 => ∀ p, p ∉ adr cs2 → P (.opq (.ref p)) ((p, .dic ds) :: cs2))) Z) : wDcR wi g wt wk wv vs RMK ρ cs P Z := h
theorem r_dcT {wi : WI} {vs : List Nat} (h : wi ρ cs (fun xs cs1 => xs.length ≤ 100000 ∧ dtW g wt w wv xs (wipeD ρ vs) cs1 [] (fun ds cs2 => ∀ p, p ∉ adr cs2 → P (.opq (.ref p)) ((p, .dct ds) :: cs2))) Z) : wDtR wi g wt w wv vs ρ cs P Z := h
theorem r_dcKT {i : Nat} {vs : List Nat} (h : we ρ cs (fun d cs1 => match d with
  | .dct kvs => kvs.length ≤ 100000 ∧ dkW i wt wv (kvs.map (·.1)) (wipeD ρ vs) cs1 [] (fun ds cs2 => ∀ p, p ∉ adr cs2 → P (.opq (.ref p)) ((p, .dct ds) :: cs2))
  | _ => False) Z) : wDkR i we wt wv vs ρ cs P Z := h
theorem r_ks2 {i j : Int} {z : D} {N : List Key → D → Cs → Prop} (h : N [.inl i, .inl j] z cs) : ∃ ks, ksOf [.int i, .int j] = some ks ∧ N ks z cs := ⟨_, rfl, h⟩
theorem r_kkI {i : Int} {z : D} {N : Key → D → Cs → Prop} (h : N (.inl i) z cs) : ∃ kk, kOf (.int i) = some kk ∧ N kk z cs := ⟨_, rfl, h⟩
theorem r_kkS {x : Str} {z : D} {N : Key → D → Cs → Prop} (h : N (.inr x) z cs) : ∃ kk, kOf (.str x) = some kk ∧ N kk z cs := ⟨_, rfl, h⟩
end
end DL
namespace DL
open PySem PySem.Spec PyProof.Rows L2
/-- the rows: first and end -/
def spots (n : Nat) : List (Nat × Nat) := (List.range n).flatMap fun f => (List.range (n - f)).map fun j => (f, f + 1 + j)
def spK (p : Nat × Nat) : List Key := [.inl (p.1 : Int), .inl (p.2 : Int)]
theorem spK_inj {p q : Nat × Nat} (h : spK p = spK q) : p = q := by
  obtain ⟨a, b⟩ := p
  obtain ⟨c, d⟩ := q
  simp only [spK, List.cons.injEq, Sum.inl.injEq, and_true] at h
  obtain ⟨h1, h2⟩ := h
  have e1 : a = c := by omega
  have e2 : b = d := by omega
  rw [e1, e2]
theorem mem_spots {n : Nat} {p : Nat × Nat} : p ∈ spots n ↔ p.1 < p.2 ∧ p.2 ≤ n := by
  unfold spots
  rw [List.mem_flatMap]
  constructor
  · rintro ⟨f, hf, hp⟩
    obtain ⟨j, hj, rfl⟩ := List.mem_map.mp hp
    have := List.mem_range.mp hf
    have := List.mem_range.mp hj
    simp only
    omega
  · rintro ⟨h1, h2⟩
    refine ⟨p.1, List.mem_range.mpr (by omega), List.mem_map.mpr ⟨p.2 - p.1 - 1, List.mem_range.mpr (by omega), ?_⟩⟩
    obtain ⟨a, b⟩ := p
    simp only at h1 h2 ⊢
    congr 1
    omega
/-- the shape of the row from f to e -/
def shp (b : Bx) (dn : Bool) (ws : List Int) (f e : Nat) : Rat := rowShape b dn ws f (e - f)
def tabOf (sh : Nat → Nat → Rat) (l : List (Nat × Nat)) : List (List Key × D) := l.map fun p => (spK p, dR (sh p.1 p.2))
def shapesT (b : Bx) (dn : Bool) (ws : List Int) : List (List Key × D) := tabOf (shp b dn ws) (spots ws.length)
theorem lk_tab {sh : Nat → Nat → Rat} {l : List (Nat × Nat)} {f e : Nat} (h : (f, e) ∈ l) : lk (tabOf sh l) [.inl (f : Int), .inl (e : Int)] = some (dR (sh f e)) :=
  look_map spK (fun p => dR (sh p.1 p.2)) (f, e) l h fun y _ hy => spK_inj hy
theorem lk_shapes {b : Bx} {dn : Bool} {ws : List Int} {f e : Int} (h0 : 0 ≤ f) (h1 : f < e) (h2 : e ≤ ws.length) : lk (shapesT b dn ws) [.inl f, .inl e] = some (dR (shp b dn ws f.toNat e.toNat)) := by
  have := lk_tab (sh := shp b dn ws) (l := spots ws.length) (f := f.toNat) (e := e.toNat) (mem_spots.mpr ⟨by simp only; omega, by simp only; omega⟩)
  rw [show ((f.toNat : Nat) : Int) = f by omega, show ((e.toNat : Nat) : Int) = e by omega] at this
  exact this
theorem r_getSh {b : Bx} {dn : Bool} {ws : List Int} {f e : Int} {cs : Cs} {P : DP} (h0 : 0 ≤ f) (h1 : f < e) (h2 : e ≤ ws.length) (h : P (dR (shp b dn ws f.toNat e.toNat)) cs) : oGetD (.dct (shapesT b dn ws)) (.tup [.int f, .int e]) cs P := r_getT2 (lk_shapes h0 h1 h2) h
end DL
namespace DL
open PySem PySem.Spec PyProof.Rows L2
/-- rows of sizes from f to n -/
inductive Way (n : Nat) : Nat → List Nat → Prop
  | nil : Way n n []
  | cons {f z : Nat} {zs : List Nat} : 1 ≤ z → f + z ≤ n → Way n (f + z) zs → Way n f (z :: zs)
theorem Way.le {n f : Nat} {zs : List Nat} (h : Way n f zs) : f ≤ n := by
  cases h with
  | nil => exact Nat.le_refl _
  | cons h1 h2 _ => omega
theorem Way.sum {n f : Nat} {zs : List Nat} (h : Way n f zs) : f + zs.sum = n := by
  induction h with
  | nil => rfl
  | cons _ _ _ ih => rw [List.sum_cons]; omega
theorem Way.pos {n f : Nat} {zs : List Nat} (h : Way n f zs) : ∀ z ∈ zs, 1 ≤ z := by
  induction h with
  | nil => intro z hz; cases hz
  | cons h1 _ _ ih =>
    intro z hz
    rcases List.mem_cons.mp hz with e | e
    · rw [e]; exact h1
    · exact ih z e
theorem Way.of {n : Nat} : ∀ {f : Nat} {zs : List Nat}, (∀ z ∈ zs, 1 ≤ z) → f + zs.sum = n → Way n f zs
  | f, [], _, h => by
    have : f = n := by simpa using h
    rw [this]; exact .nil
  | f, z :: zs, hp, h => by
    rw [List.sum_cons] at h
    exact .cons (hp z (List.mem_cons_self ..)) (by omega) (Way.of (fun y hy => hp y (List.mem_cons_of_mem _ hy)) (by omega))
theorem Way.end_ {n : Nat} {zs : List Nat} (h : Way n n zs) : zs = [] := by
  cases h with
  | nil => rfl
  | cons h1 h2 _ => omega
theorem way_ones {n : Nat} : ∀ (k f : Nat), f + k = n → Way n f (List.replicate k 1)
  | 0, f, h => by
    have : f = n := by omega
    subst this; exact .nil
  | k + 1, f, h => .cons (Nat.le_refl _) (by omega) (way_ones k (f + 1) (by omega))
/-- the worst shape of rows -/
def wFrom (sh : Nat → Nat → Rat) : Nat → List Nat → Rat
  | _, [] => 1
  | f, z :: zs => mxR (sh f (f + z)) (wFrom sh (f + z) zs)
theorem wFrom_or (sh : Nat → Nat → Rat) {n : Nat} {f : Nat} {zs : List Nat} (h : Way n f zs) : wFrom sh f zs = 1 ∨ ∃ a b, a < b ∧ b ≤ n ∧ wFrom sh f zs = sh a b := by
  induction h with
  | nil => exact .inl rfl
  | @cons f z zs h1 h2 _ ih =>
    rw [wFrom]
    rcases mxR_or (sh f (f + z)) (wFrom sh (f + z) zs) with e | e
    · exact .inr ⟨f, f + z, by omega, h2, e⟩
    · rw [e]; exact ih
/-- x is the least worst shape behind f -/
structure IsLE (sh : Nat → Nat → Rat) (n f : Nat) (x : Rat) : Prop where
  is : ∃ zs, Way n f zs ∧ wFrom sh f zs = x
  le : ∀ zs, Way n f zs → x ≤ wFrom sh f zs
section
variable {sh : Nat → Nat → Rat} {n f : Nat} {x y : Rat}
theorem IsLE.uniq (h : IsLE sh n f x) (h' : IsLE sh n f y) : x = y := by
  obtain ⟨zs, w, e⟩ := h.is
  obtain ⟨zs', w', e'⟩ := h'.is
  exact Rat.le_antisymm (by rw [← e']; exact h.le zs' w') (by rw [← e]; exact h'.le zs w)
theorem IsLE.end_ : IsLE sh n n 1 := ⟨⟨[], .nil, rfl⟩, fun zs h => by rw [h.end_]; exact Rat.le_refl⟩
theorem IsLE.sz {k : Nat} (h : IsLE sh n f x) (h1 : Sz k 1) (hs : ∀ a b, a < b → b ≤ n → Sz k (sh a b)) : Sz k x := by
  obtain ⟨zs, w, rfl⟩ := h.is
  rcases wFrom_or sh w with e | ⟨a, b, ha, hb, e⟩
  · rw [e]; exact h1
  · rw [e]; exact hs a b ha hb
open Classical in
/-- the least worst shape behind f -/
noncomputable def LE (sh : Nat → Nat → Rat) (n f : Nat) : Rat := if h : ∃ x, IsLE sh n f x then h.choose else 1
theorem IsLE.eq (h : IsLE sh n f x) : LE sh n f = x := by
  unfold LE
  rw [dif_pos ⟨x, h⟩]
  exact (Exists.choose_spec (⟨x, h⟩ : ∃ x, IsLE sh n f x)).uniq h
end
/-- the first of the ways on which all rows are good -/
inductive IsFW (good : Nat → Nat → Prop) (n : Nat) : Nat → List Nat → Prop
  | nil : IsFW good n n []
  | cons {f z : Nat} {zs : List Nat} : 1 ≤ z → f + z ≤ n → good f (f + z) → (∀ y, 1 ≤ y → y < z → ¬ good f (f + y)) → IsFW good n (f + z) zs → IsFW good n f (z :: zs)
section
variable {good : Nat → Nat → Prop} {n f : Nat} {zs ys : List Nat}
theorem IsFW.way (h : IsFW good n f zs) : Way n f zs := by
  induction h with
  | nil => exact .nil
  | cons h1 h2 _ _ _ ih => exact .cons h1 h2 ih
theorem IsFW.uniq (h : IsFW good n f zs) : ∀ {ys}, IsFW good n f ys → zs = ys := by
  induction h with
  | nil => intro ys h'; exact h'.way.end_.symm
  | @cons f z zs h1 h2 g m r ih =>
    intro ys h'
    cases h' with
    | nil => omega
    | @cons _ y ys h1' h2' g' m' r' =>
      have e : z = y := by
        rcases Nat.lt_trichotomy z y with q | q | q
        · exact absurd g (m' z h1 q)
        · exact q
        · exact absurd g' (m y h1' q)
      subst e
      rw [ih r']
end
section
variable {sh : Nat → Nat → Rat} {n f : Nat} {B : Rat}
theorem IsFW.snoc {good : Nat → Nat → Prop} {g e : Nat} {ys : List Nat} (h : ∀ zs, IsFW good n f zs → IsFW good n g (ys ++ zs)) (h1 : f < e) (h2 : e ≤ n) (hg : good f e) (hn : ∀ y, f < y → y < e → ¬ good f y) : ∀ zs, IsFW good n e zs → IsFW good n g ((ys ++ [e - f]) ++ zs) := fun zs hz => by
  rw [List.append_assoc]
  have e1 : f + (e - f) = e := by omega
  exact h _ (.cons (by omega) (by omega) (by rw [e1]; exact hg) (fun y y1 y2 => hn (f + y) (by omega) (by omega)) (by rw [e1]; exact hz))
end
theorem sum_cast : ∀ (l : List Nat), ((l.map fun z : Nat => (z : Int)).sum : Int) = (l.sum : Nat)
  | [] => rfl
  | z :: l => by rw [List.map_cons, List.sum_cons, List.sum_cons, sum_cast l]; omega
theorem way_szok {n : Nat} {zs : List Nat} (h : Way n 0 zs) : SzOk (zs.map fun z : Nat => (z : Int)) n := by
  refine ⟨fun z hz => ?_, ?_⟩
  · obtain ⟨y, hy, rfl⟩ := List.mem_map.mp hz
    have := h.pos y hy
    omega
  · rw [sum_cast]
    have := h.sum
    omega
end DL
namespace DL
open PySem PySem.Spec PyProof.Rows L2
section
variable {X : Cx} {W : WX} {K : PySem.W.Frag} {σ : L2.St} {H : Hp} {a e : Expr} {wa we : DL.WE} {w : WA} {pos : Pos}
/-- n - 1, .., 0 -/
def dnD (n : Nat) : List D := (List.range n).map fun (i : Nat) => D.int ((n : Int) - 1 - (i : Int))
def iRev1 (wa : DL.WE) : WI := fun ρ cs P Z => wa ρ cs (fun d cs1 => match d with
  | .int j => (0 ≤ j ∧ j < 2 ^ 62) ∧ P (dnD j.toNat) cs1
  | _ => False) Z
/-- range(a, b, -1) -/
def dnR (i : Int) (n : Nat) : List D := (List.range n).map fun (k : Nat) => D.int (i - (k : Int))
def iRg3 (w : WA) : WI := fun ρ cs P Z => w ρ cs (fun ds cs1 => match ds with
  | [.int i, .int j, .int (-1)] => (-(2 ^ 62) ≤ i ∧ i < 2 ^ 62 ∧ -(2 ^ 62) ≤ j ∧ j < 2 ^ 62) ∧ P (dnR i (i - j).toNat) cs1
  | _ => False) Z
/-- list(range(n)) -/
def wLstR (wa : DL.WE) : DL.WE := fun ρ cs P Z => wa ρ cs (fun d cs1 => match d with
  | .int j => (0 ≤ j ∧ j ≤ 100000) ∧ P (.lst (rngD 0 j.toNat)) cs1
  | _ => False) Z
def wLstRM (wa : DL.WE) : DL.WE := fun ρ cs P Z => wa ρ cs (fun d cs1 => match d with
  | .int j => (0 ≤ j ∧ j ≤ 100000) ∧ ∀ p, p ∉ adr cs1 → P (.opq (.ref p)) ((p, .lst (rngD 0 j.toNat)) :: cs1)
  | _ => False) Z
end
section
variable {ρ : DL.Env} {cs : Cs} {P : DP} {Z : XZ} {wa wb wc : DL.WE}
theorem r_rev1 {R : List D → Cs → Prop} (h : wa ρ cs (fun d cs1 => match d with
  | .int j => (0 ≤ j ∧ j < 2 ^ 62) ∧ R (dnD j.toNat) cs1
  | _ => False) Z) : iRev1 wa ρ cs R Z := h
theorem r_rg3 {R : List D → Cs → Prop} {i j : Int} {w : WA} (h : w ρ cs (fun ds cs1 => match ds with
  | [.int i, .int j, .int (-1)] => (-(2 ^ 62) ≤ i ∧ i < 2 ^ 62 ∧ -(2 ^ 62) ≤ j ∧ j < 2 ^ 62) ∧ R (dnR i (i - j).toNat) cs1
  | _ => False) Z) : iRg3 w ρ cs R Z := h
theorem r_lstR (h : wa ρ cs (fun d cs1 => match d with
  | .int j => (0 ≤ j ∧ j ≤ 100000) ∧ P (.lst (rngD 0 j.toNat)) cs1
  | _ => False) Z) : wLstR wa ρ cs P Z := h
theorem r_lstRM (h : wa ρ cs (fun d cs1 => match d with
  | .int j => (0 ≤ j ∧ j ≤ 100000) ∧ ∀ p, p ∉ adr cs1 → P (.opq (.ref p)) ((p, .lst (rngD 0 j.toNat)) :: cs1)
  | _ => False) Z) : wLstRM wa ρ cs P Z := h
end
end DL
namespace DL
open PySem PySem.Spec PyProof.Rows L2
section
variable {X : Cx} {W : WX} {K : PySem.W.Frag} {σ : L2.St} {H : Hp} {pos : Pos} {a b e : Expr} {es : List Expr} {wa wb we : DL.WE} {w : WA} {apos cpos : Pos}
def isDM (d : D) (cs : Cs) : Prop := match d with
  | .opq (.ref p) => (match look p cs with
    | some (.dic _) => True
    | some (.dct _) => True
    | _ => False)
  | _ => False
def wMtD (o : DMt) (wo : DL.WE) (w : WA) : DL.WE := fun ρ cs P Z => wo ρ cs (fun x cs1 => isDM x cs1 ∧ w ρ cs1 (fun ds cs2 => o x ds cs2 P) Z) Z
def mergeD (kvs more : List (Key × D)) : List (Key × D) := more.foldl (fun acc kv => putD acc kv.1 kv.2) kvs
def oUpd : DMt := fun x ds cs P => ∃ p kvs more, x = .opq (.ref p) ∧ look p cs = some (.dic kvs) ∧ ds = [.dic more] ∧ kvs.length + more.length ≤ 100000 ∧ P .non (put p (.dic (mergeD kvs more)) cs)
/-- d.get(k, x) -/
def wGet2 (wo wk wz : DL.WE) : DL.WE := fun ρ cs P Z => wo ρ cs (fun x cs1 => (∃ dd, ddAt x cs1 = some dd) ∧ wk ρ cs1 (fun k cs2 => wz ρ cs2 (fun z cs3 => ∃ o, getV x k cs3 = some o ∧ P (o.getD z) cs3) Z) Z) Z
end
section
variable {ρ : DL.Env} {cs : Cs} {P : DP} {Z : XZ} {wo wk wz : DL.WE} {w : WA} {p : Addr} {kvs more : List (Key × D)}
theorem r_mtD {o : DMt} (h : wo ρ cs (fun x cs1 => isDM x cs1 ∧ w ρ cs1 (fun ds cs2 => o x ds cs2 P) Z) Z) : wMtD o wo w ρ cs P Z := h
theorem r_isDM (hl : look p cs = some (.dic kvs)) {R : Prop} (h : R) : isDM (.opq (.ref p)) cs ∧ R := ⟨by unfold isDM; simp only [hl], h⟩
theorem r_updH (hz : kvs.length + more.length ≤ 100000) (h : P .non ((p, .dic (mergeD kvs more)) :: cs)) : oUpd (.opq (.ref p)) [.dic more] ((p, .dic kvs) :: cs) P := ⟨p, kvs, more, rfl, by simp [look], rfl, hz, by rw [put_hd]; exact h⟩
theorem r_get2 (h : wo ρ cs (fun x cs1 => (∃ dd, ddAt x cs1 = some dd) ∧ wk ρ cs1 (fun k cs2 => wz ρ cs2 (fun z cs3 => ∃ o, getV x k cs3 = some o ∧ P (o.getD z) cs3) Z) Z) Z) : wGet2 wo wk wz ρ cs P Z := h
theorem r_ddK {R : Prop} (h : R) : (∃ dd, ddAt (.dic kvs) cs = some dd) ∧ R := ⟨⟨.inl kvs, rfl⟩, h⟩
theorem r_ddM (hl : look p cs = some (.dic kvs)) {R : Prop} (h : R) : (∃ dd, ddAt (.opq (.ref p)) cs = some dd) ∧ R := ⟨⟨.inl kvs, by simp [ddAt, hl]⟩, h⟩
theorem r_gvKI {i : Int} {R : Option D → Prop} (h : R (lk kvs (.inl i))) : ∃ o, getV (.dic kvs) (.int i) cs = some o ∧ R o := ⟨_, by simp [getV, ddAt, kOf], h⟩
theorem r_gvKS {x : Str} {R : Option D → Prop} (h : R (lk kvs (.inr x))) : ∃ o, getV (.dic kvs) (.str x) cs = some o ∧ R o := ⟨_, by simp [getV, ddAt, kOf], h⟩
theorem r_gvMI {i : Int} {R : Option D → Prop} (hl : look p cs = some (.dic kvs)) (h : R (lk kvs (.inl i))) : ∃ o, getV (.opq (.ref p)) (.int i) cs = some o ∧ R o := ⟨_, by simp [getV, ddAt, hl, kOf], h⟩
theorem r_gvMS {x : Str} {R : Option D → Prop} (hl : look p cs = some (.dic kvs)) (h : R (lk kvs (.inr x))) : ∃ o, getV (.opq (.ref p)) (.str x) cs = some o ∧ R o := ⟨_, by simp [getV, ddAt, hl, kOf], h⟩
end
end DL
namespace DL
open PySem PySem.Spec PyProof.Rows L2
/-- e is come to by rows of shapes below r -/
inductive Rch (sh : Nat → Nat → Rat) (n : Nat) (r : Rat) : Nat → Prop
  | zero : Rch sh n r 0
  | step {f e : Nat} : Rch sh n r f → f < e → e ≤ n → sh f e < r → Rch sh n r e
section
variable {sh : Nat → Nat → Rat} {n : Nat} {r : Rat}
theorem Rch.le {e : Nat} (h : Rch sh n r e) : e ≤ n := by
  cases h with
  | zero => exact Nat.zero_le _
  | step _ _ h _ => exact h
end
abbrev natI (l : List Nat) : List Int := l.map fun z : Nat => (z : Int)
section
variable {cs : Cs} {P : DP} {s : Int} {ss : List Int} {x : Str} {xs : List Str}
theorem r_inLI (h : P (.bl (decide (s ∈ ss))) cs) : oIn (.int s) (.lst (ss.map D.int)) cs P := .inr ⟨s, ss, rfl, .inr rfl, h⟩
theorem r_inTI (h : P (.bl (decide (s ∈ ss))) cs) : oIn (.int s) (.tup (ss.map D.int)) cs P := .inr ⟨s, ss, rfl, .inl rfl, h⟩
theorem r_niLI (h : P (.bl (!decide (s ∈ ss))) cs) : oNotIn (.int s) (.lst (ss.map D.int)) cs P := .inr ⟨s, ss, rfl, .inr rfl, h⟩
theorem r_niTI (h : P (.bl (!decide (s ∈ ss))) cs) : oNotIn (.int s) (.tup (ss.map D.int)) cs P := .inr ⟨s, ss, rfl, .inl rfl, h⟩
theorem r_inLS (h : P (.bl (decide (x ∈ xs))) cs) : oIn (.str x) (.lst (xs.map D.str)) cs P := .inl ⟨x, xs, rfl, .inr rfl, h⟩
theorem r_niLS (h : P (.bl (!decide (x ∈ xs))) cs) : oNotIn (.str x) (.lst (xs.map D.str)) cs P := .inl ⟨x, xs, rfl, .inr rfl, h⟩
end
def r6 : Rat := ⟨1, 1000000, by decide, by decide⟩
end DL
namespace DL
open PySem PySem.Spec PyProof.Rows L2
section
variable {X : Cx} {W : WX} {K : PySem.W.Frag} {σ : L2.St} {H : Hp} {a b e : Expr} {wa wb we : DL.WE} {pos : Pos}
/-- tuples of ints -/
def tupI (k : List Int) : D := .tup (k.map D.int)
def wLenSet (we : DL.WE) : DL.WE := fun ρ cs P Z => we ρ cs (fun d cs1 => ∃ ks : List (List Int), lstOf cs1 d = some (ks.map tupI) ∧ ks.length < 64 ∧ ∀ m : Nat, (ks.Nodup → m = ks.length) → (¬ ks.Nodup → m < ks.length) → P (.int (m : Int)) cs1) Z
theorem nodup_le {α : Type} [DecidableEq α] : ∀ {l m : List α}, l.Nodup → (∀ x ∈ l, x ∈ m) → l.length ≤ m.length
  | [], m, _, _ => Nat.zero_le _
  | x :: l, m, nd, h => by
    obtain ⟨n1, n2⟩ := List.nodup_cons.mp nd
    have hx := h x (List.mem_cons_self ..)
    have := nodup_le (m := m.erase x) n2 fun y hy => (List.mem_erase_of_ne (fun z => n1 (by rw [← z]; exact hy))).mpr (h y (List.mem_cons_of_mem _ hy))
    rw [List.length_erase_of_mem hx] at this
    have := List.length_pos_of_mem hx
    rw [List.length_cons]; omega
end
section
variable {ρ : DL.Env} {cs : Cs} {P : DP} {Z : XZ} {we : DL.WE} {xs : List D} {d : D} {p : Addr}
theorem r_lenSet (h : we ρ cs (fun d cs1 => ∃ ks : List (List Int), lstOf cs1 d = some (ks.map tupI) ∧ ks.length < 64 ∧ ∀ m : Nat, (ks.Nodup → m = ks.length) → (¬ ks.Nodup → m < ks.length) → P (.int (m : Int)) cs1) Z) : wLenSet we ρ cs P Z := h
end
end DL
namespace DL
open PySem PySem.Spec PyProof.Rows L2
/-- rows from f to n, each let by R -/
inductive LWay (R : Nat → Nat → Prop) (n : Nat) : Nat → List Nat → Prop
  | nil : LWay R n n []
  | cons {f z : Nat} {zs : List Nat} : 1 ≤ z → f + z ≤ n → R f (f + z) → LWay R n (f + z) zs → LWay R n f (z :: zs)
/-- their cost -/
def wc (c : Nat → Nat → Int) : Nat → List Nat → Int
  | _, [] => 0
  | f, z :: zs => c f (f + z) + wc c (f + z) zs
/-- k is the least cost -/
structure IsC (R : Nat → Nat → Prop) (c : Nat → Nat → Int) (n f : Nat) (k : Int) : Prop where
  is : ∃ zs, LWay R n f zs ∧ wc c f zs = k
  le : ∀ zs, LWay R n f zs → k ≤ wc c f zs
section
variable {R : Nat → Nat → Prop} {c : Nat → Nat → Int} {n f : Nat} {k l : Int} {zs : List Nat}
theorem LWay.way (h : LWay R n f zs) : Way n f zs := by
  induction h with
  | nil => exact .nil
  | cons h1 h2 _ _ ih => exact .cons h1 h2 ih
theorem LWay.end_ (h : LWay R n n zs) : zs = [] := h.way.end_
theorem IsC.uniq (h : IsC R c n f k) (h' : IsC R c n f l) : k = l := by
  obtain ⟨zs, w, e⟩ := h.is
  obtain ⟨zs', w', e'⟩ := h'.is
  have h1 := h.le zs' w'
  have h2 := h'.le zs w
  omega
theorem IsC.end_ : IsC R c n n 0 := ⟨⟨[], .nil, rfl⟩, fun zs h => by rw [h.end_]; exact Int.le_refl _⟩
open Classical in
/-- the least cost behind f, if a way leads on -/
noncomputable def CB (R : Nat → Nat → Prop) (c : Nat → Nat → Int) (n f : Nat) : Option Int := if h : ∃ k, IsC R c n f k then some h.choose else none
end
structure KOk (ks : List (Int × Int)) (n : Nat) : Prop where
  in_ : ∀ p ∈ ks, 0 ≤ p.1 ∧ 1 ≤ p.2 ∧ p.1 + p.2 ≤ n
  nd : ks.Nodup
  len : ks.length < 64
/-- a row is let -/
def lets (sh : Nat → Nat → Rat) (r : Rat) (f e : Nat) : Prop := ¬ r < sh f e
/-- what a row costs -/
def cst (ks : List (Int × Int)) (f e : Nat) : Int := if ((f : Int), (e : Int) - (f : Int)) ∈ ks then 0 else 1
theorem KOk.sub {ks ls : List (Int × Int)} {n : Nat} (h : KOk ks n) (p : ls.Sublist ks) : KOk ls n := ⟨fun x hx => h.in_ x (p.subset hx), p.nodup h.nd, Nat.lt_of_le_of_lt p.length_le h.len⟩
section
variable {sh : Nat → Nat → Rat} {n : Nat} {r r' : Rat} {ks ls : List (Int × Int)} {f : Nat} {zs : List Nat}
theorem Way.len {ys : List Nat} (h : Way n f ys) : f + ys.length ≤ n := by
  induction h with
  | nil => exact Nat.le_refl _
  | cons h1 h2 _ ih => rw [List.length_cons]; omega
end
def sGoneA (u : WS) : WS := fun f ρ cs => u { f with nx := fun ρ' cs' => ∃ p m, look p cs' = some m ∧ f.nx ρ' (del p cs') } ρ cs
section
variable {ρ : DL.Env} {cs : Cs} {u : WS} {nx bk ct : DL.Env → Cs → Prop} {rt : D → Cs → Prop} {ex : Exn → DL.Env → Cs → Prop}
theorem q_goneA (h : u ⟨fun ρ' cs' => ∃ p m, look p cs' = some m ∧ nx ρ' (del p cs'), rt, ex, bk, ct⟩ ρ cs) : sGoneA u ⟨nx, rt, ex, bk, ct⟩ ρ cs := h
theorem r_goneEx {p : Addr} {m : MO} (h : nx ρ cs) : ∃ q m', look q ((p, m) :: cs) = some m' ∧ nx ρ (del q ((p, m) :: cs)) := ⟨p, m, look_hd, by rw [del_hd]; exact h⟩
end
section
variable {R : Nat → Nat → Prop} {c : Nat → Nat → Int} {f e g : Nat} {k : Int} {zs : List Nat}
theorem LWay.snoc (h : LWay R f g zs) (h1 : f < e) (hr : R f e) : LWay R e g (zs ++ [e - f]) ∧ wc c g (zs ++ [e - f]) = wc c g zs + c f e := by
  induction h with
  | nil =>
    have e1 : f + (e - f) = e := by omega
    refine ⟨.cons (by omega) (by omega) (by rw [e1]; exact hr) (by rw [e1]; exact .nil), ?_⟩
    rw [List.nil_append, wc, wc, wc, e1]; omega
  | @cons g z zs z1 z2 z3 w ih =>
    obtain ⟨i1, i2⟩ := ih
    refine ⟨.cons z1 (by omega) z3 i1, ?_⟩
    rw [List.cons_append, wc, wc, i2]; omega
end
def optD : Option Int → D
  | none => .non
  | some k => .int k
/-- the numbers -/
noncomputable def numL (sh : Nat → Nat → Rat) (r : Rat) (ks : List (Int × Int)) (m : Nat) : List D := (List.range m).map fun e => optD (CB (lets sh r) (cst ks) e 0)
theorem numL_len (sh : Nat → Nat → Rat) (r : Rat) (ks : List (Int × Int)) (m : Nat) : (numL sh r ks m).length = m := by unfold numL; rw [List.length_map, List.length_range]
end DL
namespace DL
open PySem PySem.Spec PyProof.Rows L2
section
variable {X : Cx} {W : WX} {K : PySem.W.Frag} {e : Expr} {td : TE} {we : DL.WE} {apos cpos : Pos}
theorem RG.len {κ : Type} {G : Hp} {xs : List (κ × V)} {ds : List (κ × D)} (h : RG K G xs ds) : xs.length = ds.length := by
  induction h with
  | nil => rfl
  | cons _ _ ih => rw [List.length_cons, List.length_cons, ih]
def iItT (we : DL.WE) : WI := fun ρ cs P Z => we ρ cs (fun d cs1 => match d with
  | .dct kvs => P (kvs.map fun p => D.tup [D.tup (p.1.map kD), p.2]) cs1
  | _ => False) Z
def iItK (we : DL.WE) : WI := fun ρ cs P Z => we ρ cs (fun d cs1 => match d with
  | .dic kvs => P (kvs.map fun p => D.tup [kD p.1, p.2]) cs1
  | _ => False) Z
theorem r_itT {ρ : DL.Env} {cs : Cs} {R : List D → Cs → Prop} {Z : XZ} (h : we ρ cs (fun d cs1 => match d with
  | .dct kvs => R (kvs.map fun p => D.tup [D.tup (p.1.map kD), p.2]) cs1
  | _ => False) Z) : iItT we ρ cs R Z := h
theorem r_itK {ρ : DL.Env} {cs : Cs} {R : List D → Cs → Prop} {Z : XZ} (h : we ρ cs (fun d cs1 => match d with
  | .dic kvs => R (kvs.map fun p => D.tup [kD p.1, p.2]) cs1
  | _ => False) Z) : iItK we ρ cs R Z := h
end
section
variable {X : Cx} {W : WX} {K : PySem.W.Frag} {a b : Expr} {rest : List Expr} {pos : Pos} {wa wb : DL.WE}
def truD : D → Option Bool
  | .non => some false
  | .bl k => some k
  | .int i => some (i != 0)
  | .str x => if x.length ≤ 1000 then some ((x.length : Int) != 0) else none
  | .lst xs => some (!xs.isEmpty)
  | .tup xs => some (!xs.isEmpty)
  | _ => none
def wOrT (wa wb : DL.WE) : DL.WE := fun ρ cs P Z => wa ρ cs (fun x cs1 => ∃ k, truD x = some k ∧ (k = true → P x cs1) ∧ (k = false → wb ρ cs1 P Z)) Z
theorem r_orT {ρ : DL.Env} {cs : Cs} {P : DP} {Z : XZ} (h : wa ρ cs (fun x cs1 => ∃ k, truD x = some k ∧ (k = true → P x cs1) ∧ (k = false → wb ρ cs1 P Z)) Z) : wOrT wa wb ρ cs P Z := h
end
def sFrzA (i : Nat) (u : WS) : WS := fun f ρ cs => u { f with nx := fun ρ' cs' => ∃ p xs, ρ'[i]? = some (some (.opq (.ref p))) ∧ look p cs' = some (.lst xs) ∧ f.nx (ρ'.set i (some (.lst xs))) (del p cs') } ρ cs
theorem q_frzA {i : Nat} {ρ : DL.Env} {cs : Cs} {u : WS} {nx bk ct : DL.Env → Cs → Prop} {rt : D → Cs → Prop} {ex : Exn → DL.Env → Cs → Prop} (h : u ⟨fun ρ' cs' => ∃ p xs, ρ'[i]? = some (some (.opq (.ref p))) ∧ look p cs' = some (.lst xs) ∧ nx (ρ'.set i (some (.lst xs))) (del p cs'), rt, ex, bk, ct⟩ ρ cs) : sFrzA i u ⟨nx, rt, ex, bk, ct⟩ ρ cs := h
end DL
namespace DL
open PySem PySem.Spec PyProof.Rows L2 PySem.Calls PySem.W
section
variable {X : Cx}
inductive Ws (R : V → List Int → Prop) : List V → List (List Int) → Prop
  | nil : Ws R [] []
  | cons {v : V} {z : List Int} {vs : List V} {zs : List (List Int)} : R v z → Ws R vs zs → Ws R (v :: vs) (z :: zs)
theorem Ws.back {R : V → List Int → Prop} : ∀ {zs : List (List Int)} {us : List Value}, PySem.W.EachIs (fun u z => ∃ w, R w z ∧ L2.RelV w u) us zs → ∃ ws, Ws R ws zs ∧ Vals ws us
  | _, _, .nil => ⟨[], .nil, .nil⟩
  | _, _, .cons ⟨w, h, r⟩ hs => by
    obtain ⟨ws, h1, h2⟩ := Ws.back hs
    exact ⟨w :: ws, .cons h h1, .cons r h2⟩
theorem Ws.len {R : V → List Int → Prop} : ∀ {ws : List V} {zs : List (List Int)}, Ws R ws zs → ws.length = zs.length
  | _, _, .nil => rfl
  | _, _, .cons _ h => congrArg Nat.succ h.len
end
end DL
namespace DL
open PySem PySem.Spec PyProof.Rows L2
/-- all sizes of n things -/
def AllZ (n : Nat) (L : List (List Int)) : Prop := (∀ z, z ∈ L ↔ SzOk z n) ∧ L.Pairwise (· ≤ ·)
/-- the chief behind i of them -/
def ChZ (w : List Int → Rat) (L : List (List Int)) (i j : Nat) (z : List Int) : Prop := j < i ∧ L[j]? = some z ∧ (∀ k y, k < i → L[k]? = some y → w z ≤ w y) ∧ ∀ k y, k < j → L[k]? = some y → w z < w y
theorem chZ_first {w : List Int → Rat} {L : List (List Int)} {i : Nat} {z : List Int} (h : L[i]? = some z) (hn : ∀ k y, k < i → L[k]? = some y → w z < w y) : ChZ w L (i + 1) i z :=
  ⟨by omega, h, fun k y hk hy => by
    by_cases e : k = i
    · rw [e, h] at hy; cases hy; exact Rat.le_refl
    · exact Rat.le_of_lt (hn k y (by omega) hy), hn⟩
theorem ChZ.new {w : List Int → Rat} {L : List (List Int)} {i j : Nat} {z y : List Int} (h : ChZ w L i j z) (hy : L[i]? = some y) (hl : w y < w z) : ChZ w L (i + 1) i y := by
  obtain ⟨a1, a2, a3, a4⟩ := h
  exact chZ_first hy fun k x hk hx => Std.lt_of_lt_of_le hl (a3 k x hk hx)
theorem AllZ.ne {n : Nat} {L : List (List Int)} (h : AllZ n L) : 0 < L.length := by
  have := (h.1 (natI (List.replicate n 1))).mpr (way_szok (way_ones n 0 (by omega)))
  exact List.length_pos_of_mem this
/-- the chief among those that are let, behind i of them -/
def ChP (ok : List Int → Prop) (c : List Int → Int) (L : List (List Int)) (i j : Nat) (z : List Int) : Prop := j < i ∧ L[j]? = some z ∧ ok z ∧ (∀ k y, k < i → L[k]? = some y → ok y → c z ≤ c y) ∧ ∀ k y, k < j → L[k]? = some y → ok y → c z < c y
section
variable {ok : List Int → Prop} {c : List Int → Int} {L : List (List Int)} {i j : Nat} {z y : List Int}
theorem chP_first (h : L[i]? = some z) (hz : ok z) (hn : ∀ k y, k < i → L[k]? = some y → ok y → c z < c y) : ChP ok c L (i + 1) i z :=
  ⟨by omega, h, hz, fun k y hk hy ho => by
    by_cases e : k = i
    · rw [e, h] at hy; cases hy; exact Int.le_refl _
    · exact Int.le_of_lt (hn k y (by omega) hy ho), hn⟩
theorem ChP.new (h : ChP ok c L i j z) (hy : L[i]? = some y) (ho : ok y) (hl : c y < c z) : ChP ok c L (i + 1) i y := by
  obtain ⟨a1, a2, a3, a4, a5⟩ := h
  exact chP_first hy ho fun k x hk hx ho => by have := a4 k x hk hx ho; omega
end
end DL
namespace DL
open PySem PySem.Spec PyProof.Rows L2
theorem XB.facts : ∀ b : XB, ExcBaseFacts b.nm b.new b.ini b.tail
  | .v => PySem.F.excBase_ValueError
  | .l => PySem.F.excBase_LookupError
  | .i => PySem.F.excBase_IndexError
theorem XB.pass (self : Value) : ∀ b : XB, refuseLoop self "__setattr__" b.tail = pure ()
  | .v => PySem.F.store_ValueError.passes self
  | .l => PySem.F.store_LookupError.passes self
  | .i => PySem.F.store_IndexError.passes self
theorem XB.obj : ∀ b : XB, b.tail.contains (.type "object") = true
  | .v => by decide +kernel
  | .l => by decide +kernel
  | .i => by decide +kernel
theorem refsX_or {b : XB} {l : List Value} (h : refsX b l = true) : (∃ c r, l = .ref c :: r ∧ refsX b r = true) ∨ l = b.tail := by
  cases l with
  | nil => exact .inr (beq_iff_eq.mp h)
  | cons a r => cases a <;> first | exact .inl ⟨_, _, rfl, h⟩ | exact .inr (beq_iff_eq.mp h)
theorem refsX_pass {b : XB} (self : Value) : ∀ {l : List Value}, refsX b l = true → refuseLoop self "__setattr__" l = pure ()
  | l, h => by
    induction l with
    | nil => rcases refsX_or h with ⟨_, _, e, _⟩ | e
             · cases e
             · rw [e]; exact b.pass self
    | cons a r ih =>
      rcases refsX_or h with ⟨c, r', e, h'⟩ | e
      · cases e
        rw [refuseLoop_ref]
        exact ih h'
      · rw [e]; exact b.pass self
theorem refsX_has {b : XB} (Y : String) : ∀ {l : List Value}, refsX b l = true → l.contains (.type Y) = b.tail.contains (.type Y)
  | l, h => by
    induction l with
    | nil => rcases refsX_or h with ⟨_, _, e, _⟩ | e
             · cases e
             · rw [e]
    | cons a r ih =>
      rcases refsX_or h with ⟨c, r', e, h'⟩ | e
      · cases e
        rw [List.contains_cons, ih h']; rfl
      · rw [e]
theorem refsX_some {b : XB} {l : List Value} (h : refsX b l = true) : l.isEmpty = false := by
  have z := refsX_has "object" h
  rw [b.obj] at z
  cases l with
  | nil => cases z
  | cons _ _ => rfl
/-- what the written part says of an own exception class -/
structure OxC (K : PySem.W.Frag) (b : XB) (C : Addr) : Prop where
  cls : ∃ nm q N bs bm sn sub ab col dd k0 k1 k2 k3 k5, K.lookup C = some (excClassObj nm q C N bs bm true sn sub ab col dd k0 k1 k2 k3 k5 b.new) ∧ refsX b bm = true
  sa : PySem.W.findIn K (.ref C) "__setattr__" = some (some (.builtin "object.__setattr__"))
  exC : PySem.W.subIn K (.ref C) (.type "BaseException") = some true
  tyC : PySem.W.typeIn K (.ref C) = some (.type "type")
  kC : PySem.W.keepIn K (.ref C) = true
section
open Builtin Builtin.ObjectAttr PySem.W PySem.Calls PySem.HandSPX PySem.OEX
variable {prog : Program} {w : World} {A : Around} {R : Result → Shared → Prop} {h0 : Heap} {gs : Array GenState} {dr : Drawn} {tk0 : Nat} {os : OsState} {K : PySem.W.Frag} {b : XB} {fn : Str} {tk : Tok} {v : Value} {x C : Addr} {fv : Array Value} {cd : ClassData}
/-- object.__setattr__ on it, the first field -/
theorem ox_first (X : K.In h0) (hx : h0.get? x = some { cls := .ref C, data := .fields fv }) (hcd : PySem.W.clsIn K C = some cd) (hm : refsX b cd.mro = true) (hh : cd.hasDict = true) (ha : PySem.W.findIn K (.ref C) fn = some none)
    (hq : ∀ h' tk' dx, (∀ c o, c ≠ x → h0.get? c = some o → h'.get? c = some o) → h0.objs.size ≤ dx → dx ≠ x → h'.get? x = some { cls := .ref C, dict := some dx, data := .fields fv } →
      h'.Ns1 dx (fun y => if y = fn then some v else none) → R (.ok (.ret .none)) ⟨h', gs, dr, tk', os⟩) :
    codeAny (model prog w) A (.call (.builtin "object.__setattr__") ⟨[.ref x, .str fn tk, v], []⟩) R ⟨h0, gs, dr, tk0, os⟩ := by
  have Ix : PySem.W.InstAt h0 x { cls := .ref C, data := .fields fv } C none := ⟨hx, rfl, rfl, trivial⟩
  have SFo := F.store_object
  have he := refsX_some hm
  have hob : cd.mro.contains (.type "object") = true := (refsX_has "object" hm).trans b.obj
  have nx : x ≠ h0.objs.size := Nat.ne_of_lt (Heap.lt_size hx)
  have isO : PySem.W.Looks (model prog w) h0 (isInstance (.ref x) (.type "object")) true := Ix.type.andThen (PySem.W.looks_mroIn X (by unfold PySem.W.mroIn; rw [hcd, Option.bind_some, if_neg (by rw [he]; decide), hob]))
  refine codeAny_call_builtin SFo.slot.plain SFo.entry (@PySem.W.check_slot (model prog w) _ _ ⟨h0, gs, dr, tk0, os⟩ "object.__setattr__" "object" "__setattr__" (.ref x) [.str fn tk, v] [] _ SFo.kind SFo.split isO (SFo.args (.ref x) (.str fn tk) v) ?_)
  have hmr : PySem.W.Looks (model prog w) h0 (mroOf (.ref C)) cd.mro := (PySem.W.looks_clsIn X hcd).andThen .now
  have tkr : PySem.W.Looks (model prog w) h0 (storeTaker? none) none := .now
  have hcl : PySem.W.Looks (model prog w) h0 (classData C) cd := PySem.W.looks_clsIn X hcd
  rw [PySem.W.osa_eq, refuse_eq]
  refine wpAny_bind (wpAny_bind (Ix.type.at (wpAny_bind (hmr.at ?_))))
  rw [refsX_pass _ hm]
  refine wpAny_pure (wpAny_bind (Ix.type.at (wpAny_bind ((PySem.W.looks_findIn X ha).at (wpAny_bind (tkr.at ?_))))))
  show wpAny _ _ (storeInOwnDict (.ref x) (.ref C) (.str fn tk) fn v false) _ _ _
  obtain ⟨nm, bs, mro, ns, qn, hd, sn, sb, ab, col, del⟩ := cd
  dsimp only at hh
  subst hh
  unfold storeInOwnDict ownDictForStores
  repeat (first | with_reducible refine store_in_new ?_ ?_ | with_reducible refine wpAny_loadPart_at hx ?_ | with_reducible refine hcl.at ?_ | wp_step)
  · exact ⟨_, #[], _, (Heap.get?_update_ne _ _ _ _ nx.symm).trans (Heap.get?_push_at rfl rfl), rfl, fun e z => absurd z (by simp), fun _ => rfl⟩
  · intro h' tk' hn' sb'
    refine hq h' tk' h0.objs.size (fun c o hc ho => (sb'.2 c (Nat.ne_of_lt (Heap.lt_size ho))).trans ((Heap.get?_update_ne _ _ _ _ hc).trans (Heap.get?_push_of_some _ ho))) (Nat.le_refl _) nx.symm ?_ hn'
    exact (sb'.2 x nx).trans (Heap.get?_update_self _ (Heap.get?_push_of_some _ hx) rfl)
/-- .. a further field -/
theorem ox_more {dx : Addr} {m0 : Str → Option Value} {nl : List Str} (X : K.In h0) (hx : h0.get? x = some { cls := .ref C, dict := some dx, data := .fields fv }) (hns : h0.Ns1 dx m0) (hw : Within m0 nl) (hz : nl.length ≤ 1000) (hcd : PySem.W.clsIn K C = some cd) (hm : refsX b cd.mro = true) (hh : cd.hasDict = true)
    (ha : PySem.W.findIn K (.ref C) fn = some none) (hq : ∀ h' tk', (∀ c o, c ≠ dx → h0.get? c = some o → h'.get? c = some o) → h'.Ns1 dx (fun y => if y = fn then some v else m0 y) → R (.ok (.ret .none)) ⟨h', gs, dr, tk', os⟩) :
    codeAny (model prog w) A (.call (.builtin "object.__setattr__") ⟨[.ref x, .str fn tk, v], []⟩) R ⟨h0, gs, dr, tk0, os⟩ := by
  obtain ⟨oD, _, _, hoD, _, _⟩ := hns.count hw
  have Ix : PySem.W.InstAt h0 x { cls := .ref C, dict := some dx, data := .fields fv } C (some oD) := ⟨hx, rfl, rfl, hoD⟩
  have SFo := F.store_object
  have he := refsX_some hm
  have hob : cd.mro.contains (.type "object") = true := (refsX_has "object" hm).trans b.obj
  have isO : PySem.W.Looks (model prog w) h0 (isInstance (.ref x) (.type "object")) true := Ix.type.andThen (PySem.W.looks_mroIn X (by unfold PySem.W.mroIn; rw [hcd, Option.bind_some, if_neg (by rw [he]; decide), hob]))
  refine codeAny_call_builtin SFo.slot.plain SFo.entry (@PySem.W.check_slot (model prog w) _ _ ⟨h0, gs, dr, tk0, os⟩ "object.__setattr__" "object" "__setattr__" (.ref x) [.str fn tk, v] [] _ SFo.kind SFo.split isO (SFo.args (.ref x) (.str fn tk) v) ?_)
  have hmr : PySem.W.Looks (model prog w) h0 (mroOf (.ref C)) cd.mro := (PySem.W.looks_clsIn X hcd).andThen .now
  have tkr : PySem.W.Looks (model prog w) h0 (storeTaker? none) none := .now
  have hcl : PySem.W.Looks (model prog w) h0 (classData C) cd := PySem.W.looks_clsIn X hcd
  rw [PySem.W.osa_eq, refuse_eq]
  refine wpAny_bind (wpAny_bind (Ix.type.at (wpAny_bind (hmr.at ?_))))
  rw [refsX_pass _ hm]
  refine wpAny_pure (wpAny_bind (Ix.type.at (wpAny_bind ((PySem.W.looks_findIn X ha).at (wpAny_bind (tkr.at ?_))))))
  show wpAny _ _ (storeInOwnDict (.ref x) (.ref C) (.str fn tk) fn v false) _ _ _
  obtain ⟨nm, bs, mro, ns, qn, hd, sn, sb, ab, col, del⟩ := cd
  dsimp only at hh
  subst hh
  unfold storeInOwnDict ownDictForStores
  repeat (first | with_reducible refine store_in_old hns hw hz ?_ | with_reducible refine wpAny_loadPart_at hx ?_ | with_reducible refine hcl.at ?_ | wp_step)
  intro h' tk' hn' sb'
  exact hq h' tk' (fun c o hc ho => (sb'.2 c hc).trans ho) hn'
end
section
variable {X : Cx} {pins : List (Addr × Obj)} {σ : L2.St} {H : Hp} {s : Shared} {a C dx : Addr} {b : XB} {fn : Str} {y : V} {u : Value} {fs : List (Str × V)} {Qu : Unit → Shared → Prop} {E : Value → Shared → Prop} {A : Around}
theorem OxC.clsIn {K : PySem.W.Frag} (T : OxC K b C) : ∃ cd, PySem.W.clsIn K C = some cd ∧ refsX b cd.mro = true ∧ cd.hasDict = true := by
  obtain ⟨nm, q, N, bs, bm, sn, sub, ab, col, dd, k0, k1, k2, k3, k5, hC, hbm⟩ := T.cls
  exact ⟨{ name := nm, bases := bs, mro := .ref C :: bm, ns := N, qualname := q, hasDict := true, slotNames := sn, subclasses := sub, abstract := ab, collection := col, hasDel := false }, by unfold PySem.W.clsIn; rw [hC] <;> rfl, hbm, rfl⟩
theorem ox_put1 (T : OxC X.K b C) (I : Inv X pins σ H s) (e : H a = some (exo a C none)) (hno : PySem.W.findIn X.K (.ref C) fn = some none) (ry : RelV y u)
    (h : ∀ dx s', H dx = none → dx ≠ a → Inv X pins σ (upd (upd H dx (exd dx [(fn, y)])) a (exo a C (some dx))) s' → Qu () s') : wpAny (model X.prog X.w) A (setAttr (.ref a) fn u) Qu E s := by
  obtain ⟨cd, hcl, hmr, hhd⟩ := T.clsIn
  obtain ⟨t1, ho⟩ := exo_at I.hok e
  obtain ⟨h0, gs, dr, t, os⟩ := s
  refine PySem.W.set_plain I.kIn (ox := { cls := .ref C, dict := none, data := .fields #[.ref t1, .none, .none, .none, .bool false, .none] }) (od := none) ⟨ho, rfl, rfl, trivial⟩ T.sa (ox_first I.kIn ho hcl hmr hhd hno fun h' tk' dx k dn dne hx hn => ?_)
  have hnd : H dx = none := I.hok.fresh dn
  have nd : ∀ {c : Addr} {o : Obj}, h0.get? c = some o → c ≠ dx := fun q => Nat.ne_of_lt (Nat.lt_of_lt_of_le (Heap.lt_size q) dn)
  have na : ∀ {c : Addr}, H c = none → c ≠ a := fun n z => by rw [z, e] at n; cases n
  have U1 : Un X.fs [] H (upd (upd H dx (exd dx [(fn, y)])) a (exo a C (some dx))) h0 h' := ⟨fun c o q n _ _ => k c o (na n) q, fun c o q n _ _ => ⟨o.slots, k c o (na n) q⟩, fun c o q n _ => (by rw [upd_ne (na n), upd_ne (nd q)]; exact n),
    fun c o q _ => (by
      by_cases hc : c = a
      · exact ⟨_, by rw [hc]; exact hx⟩
      · exact ⟨o, k c o hc q⟩),
    fun c xs q => (by rw [upd_ne (at_ne e q exo_tup), upd_ne (ne_of_none q hnd)]; exact q), fun c o v q => (by rw [upd_ne (at_ne e q exo_frz), upd_ne (ne_of_none q hnd)]; exact q),
    fun c ps q => ⟨#[], by rw [upd_ne (at_ne e q exo_tbl), upd_ne (ne_of_none q hnd), q]; simp⟩⟩
  refine h dx _ hnd dne (I.un (t' := tk') U1 fun c o q => ?_)
  by_cases hc : c = a
  · subst hc
    rw [upd_same] at q
    cases q
    exact exo_ok hx
  · rw [upd_ne hc] at q
    by_cases hd : c = dx
    · subst hd
      rw [upd_same] at q
      cases q
      exact exd_ok hn (relO_put (fs := []) ry fun g => True.intro)
    · rw [upd_ne hd] at q
      refine (I.hok c o q).stay (fun c2 v2 hc2 z => k c2 v2 (by
        rcases hc2 with hc2 | hc2
        · rw [hc2]; exact hc
        · exact at_ne e hc2 exo_own) z) (fun c2 hc2 => ?_) (fun c2 xs hc2 => ?_)
      · rw [upd_ne (at_ne e hc2 exo_own), upd_ne (ne_of_none hc2 hnd)]; exact hc2
      · rw [upd_ne (at_ne e hc2 exo_tup), upd_ne (ne_of_none hc2 hnd)]; exact hc2
theorem ox_put2 (T : OxC X.K b C) (I : Inv X pins σ H s) (e : H a = some (exo a C (some dx))) (ed : H dx = some (exd dx fs)) (hl : fs.length ≤ 900) (hno : PySem.W.findIn X.K (.ref C) fn = some none) (ry : RelV y u)
    (h : ∀ s', Inv X pins σ (upd H dx (exd dx ((fn, y) :: fs))) s' → Qu () s') : wpAny (model X.prog X.w) A (setAttr (.ref a) fn u) Qu E s := by
  obtain ⟨cd, hcl, hmr, hhd⟩ := T.clsIn
  obtain ⟨t1, ho⟩ := exo_at I.hok e
  obtain ⟨mA, hns, rel⟩ := exd_at I.hok ed
  have hw := within_of rel
  obtain ⟨h0, gs, dr, t, os⟩ := s
  obtain ⟨oD, _, _, hoD, _, _⟩ := hns.count hw
  refine PySem.W.set_plain I.kIn (ox := { cls := .ref C, dict := some dx, data := .fields #[.ref t1, .none, .none, .none, .bool false, .none] }) (od := some oD) ⟨ho, rfl, rfl, hoD⟩ T.sa (ox_more I.kIn ho hns hw (by rw [List.length_map]; omega) hcl hmr hhd hno fun h' tk' k hn => ?_)
  have hd : ∃ o, h'.get? dx = some o := by obtain ⟨o, _, _, z, _⟩ := hn; exact ⟨o, z⟩
  exact h _ (I.write (t' := tk') (x := dx) (e := dx) (o := exd dx ((fn, y) :: fs)) (by rw [ed]; exact True.intro) (.inl rfl) k hd (exd_ok hn (relO_put ry rel)))
/-- B.__init__(self, ..) -/
theorem ox_init {us : List Value} {Qv : Value → Shared → Prop} (T : OxC X.K b C) (I : Inv X pins σ H s) (e : H a = some (exo a C none)) (hl : us.length ≤ sizeLine) (h : ∀ s', Inv X pins σ H s' → Qv .none s') : wpAny (model X.prog X.w) A (call (.builtin b.ini) (.ref a :: us)) Qv E s := by
  obtain ⟨nm, q, N, bs, bm, sn, sub, ab, col, dd, k0, k1, k2, k3, k5, hC, hbm⟩ := T.cls
  obtain ⟨t1, ho⟩ := exo_at I.hok e
  obtain ⟨h0, gs, dr, t, os⟩ := s
  refine wpAny_call (PySem.HandSPX.init_base b.facts (fun Y => refsX_has Y hbm) (I.kIn _ _ hC) ho hl fun h' t2 k hx => ?_)
  have J := I.write (t' := t) (x := a) (e := a) (o := exo a C none) (by rw [e]; exact True.intro) (.inl rfl) k ⟨_, hx⟩ (exo_ok hx)
  rw [show upd H a (exo a C none) = H by
    funext c
    by_cases hc : c = a
    · rw [hc, upd_same, e]
    · rw [upd_ne hc]] at J
  exact h _ J
end
def tBI (K : PySem.W.Frag) (b : XB) (ta : TA) : TE := fun σ H Q => ta σ H fun vs H1 => ∃ (a C : Addr) (ws : List V), vs = .ref a :: ws ∧ ws.length ≤ 1000 ∧ OxC K b C ∧ H1 a = some (exo a C none) ∧ Q .non H1
def tXs (K : PySem.W.Frag) (b : XB) (fn : Str) (to te : TE) : TS := fun D σ H => te σ H fun y H1 => to σ H1 fun x H2 => ∃ a C : Addr, x = .ref a ∧ OxC K b C ∧ PySem.W.findIn K (.ref C) fn = some none ∧
  ((H2 a = some (exo a C none) ∧ ∀ dx, H2 dx = none → dx ≠ a → D.nx σ (upd (upd H2 dx (exd dx [(fn, y)])) a (exo a C (some dx)))) ∨
    ∃ (dx : Addr) (fs : List (Str × V)), H2 a = some (exo a C (some dx)) ∧ H2 dx = some (exd dx fs) ∧ fs.length ≤ 900 ∧ D.nx σ (upd H2 dx (exd dx ((fn, y) :: fs))))
theorem XB.typ : ∀ b : XB, typeOf (.type b.nm) = pure (.type "type")
  | .v => by kernel_rfl
  | .l => by kernel_rfl
  | .i => by kernel_rfl
theorem XB.boot : ∀ b : XB, bootBuiltins (Str.ofString b.nm) = some (.type b.nm)
  | .v => PyProof.Rows.Boot.«ValueError»
  | .l => PyProof.Rows.Boot.«LookupError»
  | .i => PyProof.Rows.Boot.«IndexError»
theorem XB.row (K : PySem.W.Frag) : ∀ b : XB, PySem.W.findCls K (.type b.nm) (.type "type") "__init__" = some (.val (.builtin b.ini))
  | .v => by kernel_rfl
  | .l => by kernel_rfl
  | .i => by kernel_rfl
section
variable {X : Cx} {o e : Expr} {es : List Expr} {to te : TE} {ta : TA} {fn x : Str} {p p' p1 p2 pos : Pos}
theorem pe_binit {pl : Sem Bool} (b : XB) (hx : x = Str.ofString b.nm) (hg : Gl X x) (hm : X.mg x = none) (ha : PA X (e :: es) ta) (hn : x ≠ "__name__") (hdb : (x == ("__debug__" : Str)) = false)
    (hc : eval (.Call (.Attribute (.Name x p1) "__init__" p2) (e :: es) [] pos) X.env = (do
      let ov ← eval (.Name x p1) X.env
      standAt p2.atName
      let (f, first) ← holding [ov] (getMethod ov "__init__" pl)
      callWith pos f first (backTo pos (starEach (e :: es) X.env)) (backToKw pos (keywordEach [] X.env))) := by rfl)
    (he : starEach (e :: es) X.env = (false, eval e X.env) :: starEach es X.env := by rfl) (hpl : (backTo pos (starEach es X.env)).any (·.1) = false := by rfl) :
    PE X (.Call (.Attribute (.Name x p1) "__init__" p2) (e :: es) [] pos) (tBI X.K b ta) := by
  subst hx
  refine ⟨fun pins s σ H Q I h => ?_⟩
  refine PySem.W.methodCall_KW (ld_blt I hg hm b.boot ?_ hn hdb) hc
  obtain ⟨m, fr⟩ := I.fr
  refine PySem.W.method_type fr I.ok.mod.kin b.typ (by cases b <;> decide +kernel) (b.row X.K) (by cases b <;> decide +kernel) ?_
  show wpAny _ _ (callWith pos (Value.builtin b.ini) [] (backTo pos (starEach (e :: es) X.env)) []) _ _ _
  refine PyProof.Rows.callWith_method1 (thn (ha.run pos pins _ σ H _ (I.tok _) h) fun us s1 ⟨vs, H1, I1, r1, a, C, ws, ev, hl, T, ea, q⟩ => ?_) he hpl
  subst ev
  cases r1 with
  | @cons _ u0 _ ur ra rw' =>
    obtain rfl : u0 = Value.ref a := ra
    exact ox_init T I1 ea (by rw [← Paired.length rw', sizeLine_eq]; omega) fun s' J => ⟨.non, H1, J, rfl, q⟩
theorem ps_xs {b : XB} (ho : PE X o to) (he : PE X e te) (hs : swapsWith e (some (.Attribute o fn p')) pos.line X.env = pure false := by rfl) : PS X (.Assign [.Attribute o fn p'] e pos) (tXs X.K b fn to te) := by
  refine ⟨fun pins s σ H D I h => ?_⟩
  refine plainObj_wpAny_Assign_Attribute (thn (he.run pins s σ H _ I h) fun v s1 ⟨y, H1, I1, r1, q1⟩ => thn (ho.run pins s1 σ H1 _ I1 q1) fun u s2 ⟨z, H2, I2, r2, a, C, ez, T, hno, q⟩ => ?_) hs
  subst ez
  obtain rfl : u = Value.ref a := r2
  rcases q with ⟨ea, q⟩ | ⟨dx, fs, ea, ed, hl, q⟩
  · exact ox_put1 T I2 ea hno r1 fun dx s' n ne J => ⟨σ, _, J, q dx n ne⟩
  · exact ox_put2 T I2 ea ed hl hno r1 fun s' J => ⟨σ, _, J, q⟩
/-- C() -/
theorem pmk_ox0 {CX : CXT} {C fI : Addr} {k : Nat} {fd : FuncData} {ps : List Str} {sp : Sp} {ds : List Value} {dvs : List V} {b : XB} (T : OxC X.K b C) (iC : PySem.W.findIn X.K (.ref C) "__init__" = some (some (.ref fI))) (tI : PySem.W.typeIn X.K (.ref fI) = some (.type "function"))
    (FI : FnOk X.prog X.w X.K X.mg X.base CX k fI fd ps sp) (hr : Room (k + 1) X.A) (hb : Binds X.K fd ps ds) (hd : Vals dvs ds) (hx : Passes CX X (fun _ _ _ => False)) (hg : Gl X x) (hm : X.mg x = some (.ref C)) (hdb : (x == ("__debug__" : Str)) = false := by decide) : PMk X (.Call (.Name x p) [] [] pos) (tMkO C sp dvs tNil) := by
  intro pins s σ H Q I hq
  obtain ⟨nm, q, N, bs, bm, sn, sub, ab, col, dd, k0, k1, k2, k3, k5, hC, hbm⟩ := T.cls
  refine wpAny_Call_Name_kw (ld_glob I hg hm (PySem.W.callWith_K0 I.kIn T.kC ?_) hdb)
  obtain ⟨_, hq⟩ := hq
  obtain ⟨h0, gs, dr, tk, os⟩ := s
  obtain ⟨n0, hn0⟩ : ∃ n0, n0 = h0.objs.size + 1 := ⟨_, rfl⟩
  have hsz : h0.objs.size ≤ n0 := by omega
  have hq2 := hq n0 (I.hok.fresh hsz)
  obtain ⟨G, hG⟩ : ∃ G, G = (h0.push (PySem.W.kdv_tup [])).push (PySem.HandSPX.excO C h0.objs.size) := ⟨_, rfl⟩
  have kk : ∀ c o, h0.get? c = some o → G.get? c = some o := fun c o z => by rw [hG]; exact Heap.get?_push_of_some _ (Heap.get?_push_of_some _ z)
  have at_ : G.get? n0 = some (PySem.HandSPX.excO C h0.objs.size) := by rw [hG, hn0]; heap_get
  have J : L2.Inv X pins σ (upd H n0 (exo n0 C none)) ⟨G, gs, dr, tk, os⟩ := I.laid (t' := tk) kk hsz (exo_ok at_)
  have rv : Vals (V.ref n0 :: ([] ++ dvs)) ([Value.ref n0] ++ ds) := .cons rfl hd
  have hl : ([Value.ref n0] ++ ds).length = ps.length := by
    have z := rv.length
    rw [FI.len _ _ _ _ hq2] at z
    exact z.symm
  have run := FI.run _ X.stack _ _ ⟨Value.ref n0 :: [], []⟩ ([Value.ref n0] ++ ds) _ _ (fun _ _ _ => False) (hr.make C [] []) (J.env0.make C [] []) (hb _ (Value.ref n0 :: []) J.kIn hl) rv hq2
  rw [hG, hn0] at run
  refine wpAny_call (PySem.HandSPX.call_own b.facts (fun Y => refsX_has Y hbm) (I.kIn _ _ hC) (PySem.W.looks_findIn I.kIn iC) (fun self => PySem.W.bind_fn I.kIn self tI) (by simp) (codeAny_mono run fun r s' hr' => ?_))
  rw [← hG, ← hn0] at hr'
  cases r with
  | error er => exact hx pins σ _ _ er s' J hr'
  | ok fl =>
    cases fl with
    | ret u =>
      obtain ⟨v, H2, os2, bare2, un2, hok2, rv2, ev, d, fs, ea, ed, hd1, q2⟩ := hr'
      subst ev
      obtain ⟨h2, g2, d2, t2, os'⟩ := s'
      rw [← hn0]
      exact ⟨rv2, mk_end (raises_own T.exC T.tyC) I hsz kk un2 hok2 os2 bare2 ea ed hd1 q2⟩
    | next => exact hr'.elim
    | brk => exact hr'.elim
    | cont => exact hr'.elim
end
end DL
namespace DL
open PySem PySem.Spec PyProof.Rows L2 ClX
section
variable {X : Cx} {x m : Str} {C f : Addr} {mc : Value} {CX : CXT} {k : Nat} {fd : FuncData} {ps : List Str} {sp : Sp} {ds : List Value} {dvs : List V} {E : XK} {e : Expr} {es : List Expr} {t : TA} {p1 p2 pos : Pos}
theorem pe_cfun {pl : Sem Bool} (F : FnOk X.prog X.w X.K X.mg X.base CX k f fd ps sp) (hr : Room k X.A) (hg : Gl X x) (hm : X.mg x = some (.ref C)) (rC : CRead X.K C mc) (vC : CVal X.K C mc m (.ref f) (.ref f)) (hk : PySem.W.keepIn X.K (.ref f) = true)
    (hb : Binds X.K fd ps ds) (hd : Vals dvs ds) (hx : Passes CX X E) (ha : PA X (e :: es) t) (hdb : (x == ("__debug__" : Str)) = false := by decide)
    (hc : eval (.Call (.Attribute (.Name x p1) m p2) (e :: es) [] pos) X.env = (do
      let ov ← eval (.Name x p1) X.env
      standAt p2.atName
      let (f, first) ← holding [ov] (getMethod ov m pl)
      callWith pos f first (backTo pos (starEach (e :: es) X.env)) (backToKw pos (keywordEach [] X.env))) := by rfl)
    (he : starEach (e :: es) X.env = (false, eval e X.env) :: starEach es X.env := by rfl) (hpl : (backTo pos (starEach es X.env)).any (·.1) = false := by rfl) :
    PE X (.Call (.Attribute (.Name x p1) m p2) (e :: es) [] pos) (tCall sp dvs E t) := by
  refine ⟨fun pins s0 σ H Q I hq => ?_⟩
  refine PySem.W.methodCall_KW (ld_glob I hg hm (PySem.W.method_cls I.kIn rC.ga (getcval_ok I rC vC fun s1 J => ?_)) hdb) hc
  refine PySem.W.callWith_K (h₀ := X.base) J.ok.mod.kin hk (thn (ha.run pos pins s1 σ H _ J hq) fun us s2 hh => ?_) he hpl
  obtain ⟨vs, H1, I1, r1, q1⟩ := hh
  exact ⟨I1.kIn, run_fn F hr hb hd hx I1 r1 q1⟩
end
/-- what is known of an own exception's class: its fields are no attributes of the class -/
structure XcC (K : PySem.W.Frag) (b : XB) (C : Addr) : Prop where
  o : OxC K b C
  f : XfC K C
  called : PySem.W.findIn K (.ref C) "called" = some none
  at_ : PySem.W.findIn K (.ref C) "at" = some none
  name : PySem.W.findIn K (.ref C) "name" = some none
  what : PySem.W.findIn K (.ref C) "what" = some none
/-- __init__(self, ..): the fields are g of the arguments -/
def spX (K : PySem.W.Frag) (b : XB) (n : Nat) (g : List V → List (Str × V)) : Sp := fun vs H Q _ => ∃ (a C : Addr) (ws : List V), vs = .ref a :: ws ∧ ws.length = n ∧ XcC K b C ∧ H a = some (exo a C none) ∧
  ∀ dx, H dx = none → dx ≠ a → Q .non (upd (upd H dx (exd dx (g ws))) a (exo a C (some dx)))
theorem spX_len {K : PySem.W.Frag} {b : XB} {n : Nat} {g : List V → List (Str × V)} : ∀ vs H Q E, spX K b n g vs H Q E → vs.length = n + 1 := fun vs H Q E ⟨a, C, ws, e, l, _⟩ => by rw [e, List.length_cons, l]
theorem upd_upd {H : Hp} {a b : Addr} {o o' u : HO} (h : b ≠ a) : upd (upd (upd H b o) a u) b o' = upd (upd H b o') a u := by
  funext c
  by_cases h1 : c = b
  · subst h1; rw [upd_same, upd_ne h, upd_same]
  · by_cases h2 : c = a
    · subst h2; rw [upd_ne h1, upd_same, upd_same]
    · rw [upd_ne h1, upd_ne h2, upd_ne h1, upd_ne h2, upd_ne h1]
section
variable {K : PySem.W.Frag} {vs : List V} {H : Hp} {Q : VK} {E : XK} {sp : Sp} {c fl : Str} {n : Nat} {b : XB}
/-- the base: B.__init__(self, called); self.called = called -/
theorem base_read (h : spX K b 1 (fun ws => [("called", ws.getD 0 .non)]) vs H Q E) : tSeq (tDrop (tBI K b (tCons (tVar 0) (tCons (tVar 1) tNil)))) (tXs K b "called" (tVar 0) (tVar 1)) { nx := fun _ H' => Q .non H', rt := Q } (L2.start ["self", "called"] vs) H := by
  obtain ⟨a, C, ws, rfl, hl, T, ha, hq⟩ := h
  obtain ⟨v, rfl⟩ : ∃ v, ws = [v] := by
    match ws, hl with
    | [v], _ => exact ⟨v, rfl⟩
  refine ⟨.ref a, rfl, v, rfl, a, C, [v], rfl, by simp, T.o, ha, ?_⟩
  exact ⟨v, rfl, .ref a, rfl, a, C, rfl, T.o, T.called, .inl ⟨ha, hq⟩⟩
/-- .. and a field: self.f = f -/
theorem over1_read (hf : ∀ C, XcC K b C → PySem.W.findIn K (.ref C) fl = some none) (h : spX K b 1 (fun ws => [(fl, ws.getD 0 .non), ("called", .str c)]) vs H Q E) :
    tSeq (tDrop (tCall (spX K b 1 fun ws => [("called", ws.getD 0 .non)]) [] (fun _ _ _ => False) (tCons (tVar 0) (tCons (tC (.str c)) tNil)))) (tXs K b fl (tVar 0) (tVar 1)) { nx := fun _ H' => Q .non H', rt := Q } (L2.start ["self", fl] vs) H := by
  obtain ⟨a, C, ws, rfl, hl, T, ha, hq⟩ := h
  obtain ⟨v, rfl⟩ : ∃ v, ws = [v] := by
    match ws, hl with
    | [v], _ => exact ⟨v, rfl⟩
  refine ⟨.ref a, rfl, a, C, [.str c], rfl, rfl, T, ha, fun dx h1 h2 => ?_⟩
  refine ⟨v, rfl, .ref a, rfl, a, C, rfl, T.o, hf C T, .inr ⟨dx, [("called", .str c)], upd_same, ?_, by simp, ?_⟩⟩
  · rw [upd_ne h2, upd_same]; rfl
  · rw [upd_upd h2]
    exact hq dx h1 h2
theorem noOut {X : Cx} : Passes (L2.CX X.prog X.w) X (fun _ _ _ => False) := fun _ _ _ _ _ _ _ z => by
  obtain ⟨_, _, _, _, _, _, _, _, _, _, _, _, z⟩ := z
  exact z.elim
end
def sRaise (n : Str) (g : List D → List (Str × D)) (w : WA) : WS := fun f ρ cs => w ρ cs (fun ds cs1 => f.ex ⟨n, g ds⟩ ρ cs1) (fun x cs1 => f.ex x ρ cs1)
/-- what the fields are, of values and of data -/
def FldOk (K : PySem.W.Frag) (gV : List V → List (Str × V)) (g : List D → List (Str × D)) : Prop := ∀ (G : Hp) (vs : List V) (ds : List D), RepL K G vs ds → RepX K G (gV vs) (g ds)
theorem mk_heap {H : Hp} {a d C : Addr} {fs : List (Str × V)} (h : H a = none) (hd : d ≠ a) : upd (L2.del (upd (upd (upd H a (exo a C none)) d (exd d fs)) a (exo a C (some d))) a) d (.xd fs) = upd H d (.xd fs) := by
  funext c
  by_cases h1 : c = d
  · subst h1; rw [upd_same, upd_same]
  · rw [upd_ne h1, upd_ne h1]
    by_cases h2 : c = a
    · subst h2; rw [L2.del_same, h]
    · rw [L2.del_ne h2, upd_ne h2, upd_ne h1, upd_ne h2]
section
variable {X : Cx} {W : WX} {K : PySem.W.Frag} {σ : L2.St} {H : Hp} {n : Str} {g : List D → List (Str × D)} {gV : List V → List (Str × V)} {dvs : List V} {dds : List D} {m l : Nat} {w : WA} {b : XB}
theorem raise_ok (hT : XcC K b (He.ga K n)) (hg : FldOk K gV g) (hd : ∀ G, RepL K G dvs dds) (hm : m + dds.length = l) (hl : m ≤ 1000) {E : Ends} : lS K W (sRaise n (fun ds => g (ds ++ dds)) w) E σ H → tMkO (He.ga K n) (spX K b l gV) dvs (lA K W m w) σ H (fun cls d H' => W cls d σ H') := by
  rintro ⟨F, cs, ρ, f, s, re, hw, pe⟩
  refine ⟨F, cs, ρ, _, _, s, re, hw, fun H1 cs1 vs ds s1 r1 l1 h1 => ?_, pe.px re⟩
  refine ⟨by rw [r1.length, l1]; exact hl, fun a ha => ⟨a, He.ga K n, vs ++ dvs, rfl, by rw [List.length_append, r1.length, l1, (hd H).length]; exact hm, hT, upd_same, fun dx h2 h3 => ?_⟩⟩
  have hdx : H1 dx = none := by rw [upd_ne h3] at h2; exact h2
  refine ⟨rfl, dx, _, upd_same, by rw [upd_ne h3, upd_same], hdx, ?_⟩
  rw [mk_heap ha h3]
  obtain ⟨s2, e2⟩ := s1.new (o := .xd (gV (vs ++ dvs))) hdx
  refine pe.ex _ cs1 σ ρ ⟨n, g (ds ++ dds)⟩ _ (s2.from_ s1.gr) (re.mono (s1.gr.trans s2.gr)) ⟨dx, _, rfl, e2, (hg _ _ _ (r1.append (hd _))).mono s2.gr⟩ h1
variable {x : Str} {fI : Addr} {k : Nat} {fd : FuncData} {ps : List Str} {ds : List Value} {p pos pos' : Pos} {e : Expr} {es : List Expr}
/-- raise C() -/
theorem ds_raise0 (hc : X.calm = true) (tk : Takes X W) (hT : XcC X.K b (He.ga X.K x)) (iC : PySem.W.findIn X.K (.ref (He.ga X.K x)) "__init__" = some (some (.ref fI))) (tI : PySem.W.typeIn X.K (.ref fI) = some (.type "function"))
    (FI : FnOk X.prog X.w X.K X.mg X.base (L2.CX X.prog X.w) k fI fd ps (spX X.K b l gV)) (hr : Room (k + 1) X.A) (hb : Binds X.K fd ps ds) (hd : Vals dvs ds) (hdd : ∀ G, RepL X.K G dvs dds) (hn : 0 + dds.length = l) (hg : FldOk X.K gV g) (hgl : Gl X x) (hm : X.mg x = some (.ref (He.ga X.K x)))
    (hdb : (x == ("__debug__" : Str)) = false := by decide) : DS X W (.Raise (some (.Call (.Name x p) [] [] pos)) none pos') (sRaise x (fun ds => g (ds ++ dds)) wNil) :=
  PS.imp (ps_raise hc tk (pmk_ox0 hT.o iC tI FI hr hb hd noOut hgl hm hdb)) fun E σ H h => by
    have z := raise_ok (m := 0) hT hg hdd hn (by decide) h
    obtain ⟨F, cs, ρ, P, Z, s, re, hw, pe, px⟩ := z
    exact pe H cs [] [] s .nil rfl hw
end
end DL
namespace DL
open PySem PySem.Spec PyProof.Rows L2 LamX
/-- what a table tells: each code object bears the name q -/
def TabT (H : Hp) (ps : Array Value) (q : Str) : Prop := TriplesOk ps.toList ∧ ∀ (pos : Pos) (cv : Value), codeAmong pos ps.toList = some cv → ∃ c, cv = .ref c ∧ H c = some (CodeO c q)
section
variable (K : PySem.W.Frag) (Wout : WX) (D : Ends)
/-- the ends behind a clause: its name goes -/
def endsN : Option Nat → Ends
  | none => D
  | some i => { nx := fun σ H => D.nx (σ.set i none) H, rt := D.rt, bk := fun σ H => D.bk (σ.set i none) H, ct := fun σ H => D.ct (σ.set i none) H }
def slotN (a : Addr) (σ : L2.St) : Option Nat → L2.St
  | none => σ
  | some i => σ.set i (some (.ref a))
/-- what the clauses wish, one behind another: the class, the name's slot, the suite -/
def wCls : List (Value × Option Nat × (Addr → Value → Option Addr → TS)) → WX
  | [] => Wout
  | (c, oi, ts) :: r => fun cls d σ H => ∃ b, PySem.W.exmOne K cls c = some b ∧ (b = true → ∀ a, H a = none → ts a cls d (endsN D oi) (slotN a σ oi) H) ∧ (b = false → wCls r cls d σ H)
end
/-- a clause's name -/
inductive NameN (X : Cx) : Option Str → Option Nat → Prop
  | no : NameN X none none
  | yes {n : Str} {i : Nat} : X.N[i]? = some n → X.env.kindOf n = some .local → NameN X (some n) (some i)
inductive ClsOk (X : Cx) : List ExceptHandler → List (Value × Option Nat × (Addr → Value → Option Addr → TS)) → Prop
  | nil : ClsOk X [] []
  | cons {x : Str} {c : Value} {on : Option Str} {oi : Option Nat} {ts : Addr → Value → Option Addr → TS} {b0 : Stmt} {su : List Stmt} {p1 p2 : Pos} {hs : List ExceptHandler} {l : List (Value × Option Nat × (Addr → Value → Option Addr → TS))} (hc : Names X x c) (hn : NameN X on oi)
      (hsu : ∀ (a : Addr) (ob : Obj) (cls : Value) (d : Option Addr) (pn : List (Addr × Obj)), Zc cls d ob → (∃ vs, ob.data = .fields vs) → PSs (X.suite a ((a, ob) :: pn)) (b0 :: su) (ts a cls d)) (r : ClsOk X hs l) :
      ClsOk X (.ExceptHandler (some (.Name x p1)) on (b0 :: su) p2 :: hs) ((c, oi, ts) :: l)
section
variable {X : Cx} {body : List Stmt} {h0 : ExceptHandler} {hs : List ExceptHandler} {l : List (Value × Option Nat × (Addr → Value → Option Addr → TS))} {pos : Pos} {tb : WX → TS} {Wout : WX}
/-- behind a suite with a name: the context of the whole statement again -/
theorem suite_end {pins : List (Addr × Obj)} {D : Ends} {a : Addr} {ob : Obj} {i : Nat} {n : Str} {f : Flow} {s6 : Shared} {p2 : Pos} (ok : X.Ok) (hN : X.N.Nodup) (hi : X.N[i]? = some n) (hk : X.env.kindOf n = some .local)
    (h : SP (X.suite a ((a, ob) :: (X.pn ++ pins))) [] (endsN D (some i)) f s6) : wpAny (model X.prog X.w) X.A (do bindName X.env n .none; unbindBehindTheSuite X.env n p2) (fun _ s7 => SP X pins D f s7) X.xe s6 := by
  cases f with
  | ret u => obtain ⟨v, σ6, H6, S6, r6, q6⟩ := h; exact gone_ok (S6.unsuite ok) hN hi hk fun s7 J => ⟨_, _, _, J, r6, q6⟩
  | next => obtain ⟨σ6, H6, S6, q6⟩ := h; exact gone_ok (S6.unsuite ok) hN hi hk fun s7 J => ⟨_, _, J, q6⟩
  | brk => obtain ⟨σ6, H6, S6, q6⟩ := h; exact gone_ok (S6.unsuite ok) hN hi hk fun s7 J => ⟨_, _, J, q6⟩
  | cont => obtain ⟨σ6, H6, S6, q6⟩ := h; exact gone_ok (S6.unsuite ok) hN hi hk fun s7 J => ⟨_, _, J, q6⟩
theorem ps_try_cls (hst : X.stack = X.env :: X.outer) (hf : X.env.frame = some X.env.locals) (hN : X.N.Nodup) (tk : Takes X Wout)
    (hb : ∀ (W : WX) (pn : List (Addr × Obj)) (xe : Value → Shared → Prop), Takes (X.tr pn xe) W → PassesOwn (model X.prog X.w) X.A X.env xe → PSs (X.tr pn xe) body (tb W))
    (hh : ClsOk X (h0 :: hs) l) : PS X (.Try body (h0 :: hs) [] [] pos) (fun D σ H => tb (wCls X.K Wout D l) D σ H) := by
  refine ⟨fun pins s σ H D I h => ?_⟩
  have ok := I.ok
  have hfr : X.A.frames = some (X.env :: X.outer) := by rw [ok.frames, hst]
  apply wpAny_Try_except
  let xe' : Value → Shared → Prop := fun e s₁ => wpAny (model X.prog X.w) X.A (noteFrame e X.env) (fun _ s₂ => wpAny (model X.prog X.w) X.A (setFlight e none)
    (fun _ s₃ => wpAny (model X.prog X.w) X.A (handleBy e X.env (h0 :: hs)) (SP X pins D) X.xe s₃) X.xe s₂) X.xe s₁
  have tk' : Takes (X.tr (X.pn ++ pins) xe') (wCls X.K Wout D l) := by
    rintro u s' ⟨a, B, sI, pins', σ', H', cls, d, rfl, J', nb, up, sky, na, os, ag, w⟩
    have J : Inv X pins σ' H' sI := J'.ofTry ok
    have sk : Sky B (X.env :: X.outer) a (Zc cls d) X.env.locals s'.heap := hst ▸ sky
    refine Sky.land Zc.steady hfr hf sk fun h3 fl3 up3 => ?_
    have J3 : Inv X pins σ' H' { s' with heap := h3 } := J.landed nb fl3.1 (up.trans up3) os ag
    obtain ⟨ob3, vs3, hob3, hz3, hd3⟩ := fl3.there
    have nfr : a ∉ frs (X.env :: X.outer) := fun hm => by
      obtain ⟨_, o', e', hnf⟩ := fl3.2.2.1.mem hm
      rw [hob3] at e'; cases e'
      exact hnf _ hd3
    have nL : a ≠ X.env.locals := fun z => nfr (List.mem_filterMap.mpr ⟨X.env, List.mem_cons_self, by rw [hf, z]⟩)
    have nF : a ∉ X.fs := fun hm => by
      obtain ⟨e, he, q⟩ := List.mem_filterMap.mp hm
      exact nfr (List.mem_filterMap.mpr ⟨e, List.mem_cons_of_mem _ he, q⟩)
    have S3 := J3.suite hob3 hd3 na nL nF
    have go : ∀ {hs' : List ExceptHandler} {l' : List (Value × Option Nat × (Addr → Value → Option Addr → TS))}, ClsOk X hs' l' → wCls X.K Wout D l' cls d σ' H' →
        wpAny (model X.prog X.w) X.A (handleBy (.ref a) X.env hs') (SP X pins D) X.xe { s' with heap := h3 } := by
      intro hs' l' hk
      induction hk with
      | nil =>
        intro w
        apply wpAny_handleBy_nil
        obtain ⟨k1, k2, k3, ob, vs, T, oT, ts', hob, hz, hd, h1, hr⟩ := id fl3
        unfold PySem.passOn
        refine wpAny_bind (wpAny_field hob hd h1 ?_)
        rw [if_neg (show ¬ ((Value.ref T == Value.none) = true) from by simp)]
        have fin : wpAny (model X.prog X.w) X.A (setFlight (.ref a) X.env.frame) (fun _ s4 => wpAny (model X.prog X.w) X.A (throw (.ref a) : Sem Flow) (SP X pins D) X.xe s4) X.xe { s' with heap := h3 } := by
          rw [hf]
          refine HandSPX.setFlight_upZ fl3 fun h4 hh4 up4 => wpAny_throw (tk _ _ ⟨a, B, sI, pins, σ', H', cls, d, rfl, J, nb, (up.trans up3).trans up4, ?_, na, os, ag, w⟩)
          rw [hst]; exact .inr (.inr hh4)
        first
          | exact wpAny_bind (wpAny_pure (wpAny_bind fin))
          | exact wpAny_bind fin
      | @cons x c on oi ts b0 su p1 p2 hs2 l2 hc hn hsu r ih =>
        rintro ⟨b, hb1, hyes, hnot⟩
        refine wpAny_handleBy_cons (codeAny_handlers_test ?_) (by intro q; cases q)
        have LT : PySem.W.Looks (model X.prog X.w) h3 (typeOf (.ref a)) cls := fun A Q E s k q => wpAny_typeOf_ref (k _ _ hob3) (by rw [hz3.1]; exact q)
        have LM := PySem.W.exm_one (M := model X.prog X.w) J3.kIn LT hb1
        have test : ∀ {Q E : Value → Shared → Prop}, Q c { s' with heap := h3 } → wpAny (model X.prog X.w) (X.A.mark (some (.ref a))) (eval (.Name x p1) X.env) Q E { s' with heap := h3 } := fun {Q E} q => by
          obtain ⟨hg, hdbg, hm | ⟨hm, hv, hnn⟩⟩ := hc
          · exact ld_glob (X := X.suite a ((a, ob3) :: (X.pn ++ pins))) S3 hg hm q hdbg
          · exact ld_blt (X := X.suite a ((a, ob3) :: (X.pn ++ pins))) S3 hg hm hv q hnn hdbg
        refine test (LM.here ?_)
        cases b with
        | false => exact ih (hnot rfl)
        | true =>
          cases hn with
          | no =>
            apply codeAny_handlers_suite
            refine HandSPX.lands_againZ fl3 fun h4 fl4 up4 => ?_
            have J4 : Inv X pins σ' H' { s' with heap := h4 } := J.landed nb fl4.1 ((up.trans up3).trans up4) os ag
            obtain ⟨ob4, vs4, hob4, hz4, hd4⟩ := fl4.there
            refine wpAny_mono ((hsu a ob4 cls d (X.pn ++ pins) hz4 ⟨_, hd4⟩).run [] _ σ' H' (endsN D none) (J4.suite hob4 hd4 na nL nF) (hyes rfl a na)) (fun f s6 hsp => ?_) (fun _ _ z => False.elim z)
            cases f with
            | ret u => obtain ⟨v, σ6, H6, S6, r6, q6⟩ := hsp; exact ⟨_, _, _, S6.unsuite ok, r6, q6⟩
            | next => obtain ⟨σ6, H6, S6, q6⟩ := hsp; exact ⟨_, _, S6.unsuite ok, q6⟩
            | brk => obtain ⟨σ6, H6, S6, q6⟩ := hsp; exact ⟨_, _, S6.unsuite ok, q6⟩
            | cont => obtain ⟨σ6, H6, S6, q6⟩ := hsp; exact ⟨_, _, S6.unsuite ok, q6⟩
          | yes hi hk =>
            apply codeAny_handlers_suite_as
            refine HandSPX.lands_againZ fl3 fun h4 fl4 up4 => ?_
            have J4 : Inv X pins σ' H' { s' with heap := h4 } := J.landed nb fl4.1 ((up.trans up3).trans up4) os ag
            obtain ⟨ob4, vs4, hob4, hz4, hd4⟩ := fl4.there
            refine store_ok (X := X.suite a ((a, ob4) :: (X.pn ++ pins))) (v := .ref a) (J4.suite hob4 hd4 na nL nF) hN hi (.inl hk) rfl (fun s5 S5 => ?_) (.inr hk)
            refine wpAny_mono ((hsu a ob4 cls d (X.pn ++ pins) hz4 ⟨_, hd4⟩).run [] s5 _ H' (endsN D (some _)) S5 (hyes rfl a na)) (fun f s6 hsp => ?_) (fun _ _ z => False.elim z)
            exact suite_end (D := D) ok hN hi hk hsp
    exact go hh w
  refine wpAny_mono ((hb (wCls X.K Wout D l) (X.pn ++ pins) xe' tk' PassesOwn.looking).run [] s σ H D (I.toTry _) h) (fun f s1 hsp => ?_) (fun e s1 he => he)
  cases f with
  | ret u => obtain ⟨v, σ', H', J', r, q⟩ := hsp; exact ⟨v, σ', H', J'.ofTry ok, r, q⟩
  | brk => obtain ⟨σ', H', J', q⟩ := hsp; exact ⟨σ', H', J'.ofTry ok, q⟩
  | cont => obtain ⟨σ', H', J', q⟩ := hsp; exact ⟨σ', H', J'.ofTry ok, q⟩
  | next => obtain ⟨σ', H', J', q⟩ := hsp; exact wpAny_execs_nil ⟨σ', H', J'.ofTry ok, q⟩
end
end DL
namespace DL
open PySem PySem.Spec PyProof.Rows L2 LamX
def wLam (p : Addr) (q : Str) (T : DL.WE → DL.WE) (we : DL.WE) : DL.WE := fun ρ cs P Z => look p cs = some (.tbl q) ∧ T we ρ cs P Z
theorem TabT.le {H H' : Hp} {ps : Array Value} {q : Str} (t : TabT H ps q) (e : Ex H H') : TabT H' ps q := ⟨t.1, fun pos cv hc => by
  obtain ⟨c, e1, e2⟩ := t.2 pos cv hc
  exact ⟨c, e1, e _ _ e2⟩⟩
/-- the first clause that takes cls -/
def CaughtBy (K : PySem.W.Frag) (cls : Value) : List Value → Prop
  | [] => False
  | c :: r => ∃ b, PySem.W.exmOne K cls c = some b ∧ (b = false → CaughtBy K cls r)
/-- a caught exception, its field f -/
def FldAt (K : PySem.W.Frag) (f : Str) (cls : Value) (d : Option Addr) (H : Hp) (v : V) : Prop := ∃ (C dd : Addr) (fs : List (Str × V)), cls = .ref C ∧ XfC K C ∧ PySem.W.findIn K (.ref C) f = some none ∧ d = some dd ∧ H dd = some (.xd fs) ∧ fs.lookup f = some v
def tAskD (L : List Str) (we : DL.WE) : DL.WE := fun ρ cs P Z => we ρ cs (fun d cs1 => P (.tup [d, .str ""]) cs1) (fun x cs1 => x.cls ∈ L ∧ ∃ y, x.fs.lookup ("called" : Str) = some y ∧ P (.tup [.non, y]) cs1)
def tWhyD (L : List Str) (we : DL.WE) : DL.WE := fun ρ cs P Z => we ρ cs (fun d cs1 => P (.str "") cs1) (fun x cs1 => x.cls ∈ L ∧ ∃ y, x.fs.lookup ("called" : Str) = some y ∧ P y cs1)
theorem r_lam {p : Addr} {q : Str} {T : DL.WE → DL.WE} {we : DL.WE} {ρ : DL.Env} {cs : Cs} {P : DP} {Z : XZ} (hl : look p cs = some (.tbl q)) (h : T we ρ cs P Z) : wLam p q T we ρ cs P Z := ⟨hl, h⟩
end DL
namespace DL
open PySem PySem.Spec PyProof.Rows L2 LamX ClX
theorem oexB_ok {K : PySem.W.Frag} {b : XB} {C : Addr} (h : oexB K b C = true) : OxC K b C := by
  obtain ⟨h1, h⟩ := Bool.and_eq_true_iff.mp h
  obtain ⟨h2, h⟩ := Bool.and_eq_true_iff.mp h
  obtain ⟨h3, h⟩ := Bool.and_eq_true_iff.mp h
  obtain ⟨h4, h5⟩ := Bool.and_eq_true_iff.mp h
  refine ⟨?_, of_decide_eq_true h2, of_decide_eq_true h3, of_decide_eq_true h4, h5⟩
  split at h1
  · rename_i c dd cd sl hl
    obtain ⟨e1, h1⟩ := Bool.and_eq_true_iff.mp h1
    obtain ⟨e2, h1⟩ := Bool.and_eq_true_iff.mp h1
    obtain ⟨e3, h1⟩ := Bool.and_eq_true_iff.mp h1
    split at h1
    · rename_i C' bm a0 a1 a2 a3 n a5 em es
      obtain ⟨e4, h1⟩ := Bool.and_eq_true_iff.mp h1
      obtain ⟨e5, e6⟩ := Bool.and_eq_true_iff.mp h1
      have q1 := of_decide_eq_true e1
      have q4 := of_decide_eq_true e4
      have q5 := of_decide_eq_true e5
      subst q1 q4 q5
      obtain ⟨nm, bs, mro, ns, qn, hd, sn, sub, ab, col, del⟩ := cd
      dsimp only at em e2 e3
      have q3 : del = false := by cases del <;> first | rfl | cases e3
      subst em e2 q3
      have esl : sl = #[a0, a1, a2, a3, some (.builtin b.new), a5] := by
        obtain ⟨l⟩ := sl
        simp only at es
        rw [es]
      subst esl
      exact ⟨nm, qn, ns, bs, bm, sn, sub, ab, col, dd, a0, a1, a2, a3, a5, hl, e6⟩
    · cases h1
  · cases h1
theorem xcB_ok {K : PySem.W.Frag} {b : XB} {C : Addr} (h : xcB K b C = true) : XcC K b C := by
  obtain ⟨h1, h⟩ := Bool.and_eq_true_iff.mp h
  obtain ⟨h2, h⟩ := Bool.and_eq_true_iff.mp h
  obtain ⟨h3, h⟩ := Bool.and_eq_true_iff.mp h
  obtain ⟨h4, h⟩ := Bool.and_eq_true_iff.mp h
  obtain ⟨h5, h6⟩ := Bool.and_eq_true_iff.mp h
  exact ⟨oexB_ok h1, xfB_ok h2, of_decide_eq_true h3, of_decide_eq_true h4, of_decide_eq_true h5, of_decide_eq_true h6⟩
/-- an own exception of the name n, its __init__ -/
structure XClass (K : PySem.W.Frag) (b : XB) (n : Str) : Prop where
  x : XcC K b (He.ga K n)
  ini : PySem.W.findIn K (.ref (He.ga K n)) "__init__" = some (some (.ref (iniA K n)))
  ty : PySem.W.typeIn K (.ref (iniA K n)) = some (.type "function")
  rd : CRead K (He.ga K n) (.type "type")
  vl : CVal K (He.ga K n) (.type "type") "__init__" (.ref (iniA K n)) (.ref (iniA K n))
theorem cfB_ok {K : PySem.W.Frag} {C : Addr} {m : Str} {u : Value} (h : cfB K C m u = true) : PySem.W.findCls K (.ref C) (.type "type") m = some (.val u) := by
  unfold cfB at h
  split at h
  · rename_i v e
    rw [e, of_decide_eq_true h]
  · cases h
theorem xclassB_ok {K : PySem.W.Frag} {b : XB} {n : Str} (h : xclassB K b n = true) : XClass K b n := by
  obtain ⟨h1, h⟩ := Bool.and_eq_true_iff.mp h
  obtain ⟨h2, h⟩ := Bool.and_eq_true_iff.mp h
  obtain ⟨h3, h⟩ := Bool.and_eq_true_iff.mp h
  obtain ⟨h4, h⟩ := Bool.and_eq_true_iff.mp h
  obtain ⟨h5, h6⟩ := Bool.and_eq_true_iff.mp h
  exact ⟨xcB_ok h1, of_decide_eq_true h2, of_decide_eq_true h3, ⟨h4, of_decide_eq_true h5⟩, ⟨cfB_ok h6, rfl⟩⟩
theorem caughtB_ok {K : PySem.W.Frag} {n : Str} : ∀ {cl : List Str}, caughtB K n cl = true → CaughtBy K (.ref (He.ga K n)) (cl.map fun c => .ref (He.ga K c))
  | [], h => by cases h
  | c :: r, h => by
    unfold caughtB at h
    split at h
    · rename_i e
      exact ⟨true, e, fun z => by cases z⟩
    · rename_i e
      exact ⟨false, e, fun _ => caughtB_ok h⟩
    · cases h
def exn (n : Str) : Exn := ⟨n, [("called", .str n)]⟩
def g0 (n : Str) : List D → List (Str × D) := fun _ => [("called", .str n)]
/-- an exception with a field -/
def exnF (n fl : Str) (d : D) : Exn := ⟨n, [(fl, d), ("called", .str n)]⟩
def g1V (n fl : Str) : List V → List (Str × V) := fun ws => [(fl, ws.getD 0 .non), ("called", .str n)]
def g1 (n fl : Str) : List D → List (Str × D) := fun ds => [(fl, ds.getD 0 .non), ("called", .str n)]
theorem fld1 {K : PySem.W.Frag} {n fl : Str} (hf : fl ≠ "called") : FldOk K (g1V n fl) (g1 n fl) := fun G vs ds r => by
  have r0 : Rep K G (vs.getD 0 .non) (ds.getD 0 .non) := by
    cases r with
    | nil => exact .non
    | cons h _ => exact h
  have e : (("called" : Str) == fl) = false := beq_false_of_ne (Ne.symm hf)
  refine .cons (by simp [g1V, List.lookup]) r0 (.cons (v := .str n) ?_ (.str _) .nil)
  simp [g1V, List.lookup, e]
theorem r_raise1 {n fl : Str} {we : DL.WE} {f : Fin} {ρ : DL.Env} {cs : Cs} (h : we ρ cs (fun d cs1 => f.ex (exnF n fl d) ρ cs1) (fun x cs1 => f.ex x ρ cs1)) : sRaise n (fun ds => g1 n fl (ds ++ [])) (wCons we wNil) f ρ cs := h
theorem r_raiseD {n fl : Str} {i : Int} {f : Fin} {ρ : DL.Env} {cs : Cs} (h : f.ex (exnF n fl (.int i)) ρ cs) : sRaise n (fun ds => g1 n fl (ds ++ [.int i])) wNil f ρ cs := h
theorem r_raise {n : Str} {f : Fin} {ρ : DL.Env} {cs : Cs} (h : f.ex (exn n) ρ cs) : sRaise n (fun ds => g0 n (ds ++ [])) wNil f ρ cs := h
def sp_lawT (tb : Cs) : DSp := fun ds cs P _ => ∃ ns : List Int, ds = [.lst (ns.map D.int)] ∧ ns.length ≤ 63 ∧ cs = tb ∧ ∀ cs', P (.bl true) cs'
def tbls (ts : List (Addr × Str)) : Cs := ts.map fun p => (p.1, .tbl p.2)
theorem law_startT {K : PySem.W.Frag} {H : Hp} {a : Addr} {ns : List Int} {ts : List (Addr × Str)} (nd : (ts.map (·.1)).Nodup) (hT : ∀ p ∈ ts, H p.1 = some (.tbl #[])) (hl : ns.length ≤ 63) (hS : SqL K H a (ns.map V.int)) :
    (fun (vs : List V) (H : Hp) (Q : VK) (_ : XK) => spL K 1 (sp_lawT (tbls ts)) vs H Q fun _ _ _ => False) [.ref a] H (fun v _ => v = .bl true) (fun _ _ _ => False) := by
  have ea : adr (tbls ts) = ts.map (·.1) := by unfold adr tbls; rw [List.map_map]; rfl
  refine ⟨fun _ => none, tbls ts, [.lst (ns.map D.int)], fun d _ => d = .bl true, fun _ _ => False, ⟨fun _ _ h => (nomatch h), Ex.refl _, ea ▸ nd, fun _ _ => rfl, fun b m hm => ?_, fun _ _ h => (nomatch h)⟩, ?_, rfl, ⟨ns, rfl, hl, rfl, fun _ => rfl⟩, ?_, fun _ _ _ _ _ _ h => h⟩
  · obtain ⟨p, hp, e⟩ := List.mem_map.mp hm
    cases e
    refine ⟨_, hT p hp, ⟨True.intro, fun pos cv hc => ?_⟩⟩
    have z : codeAmong pos [] = some cv := hc
    simp [codeAmong] at z
  · have hna : ∀ u : HO, (∀ ps, u ≠ .tbl ps) → H a = some u → pur (fun _ => none) (tbls ts) H a = some u := fun u hu e => by
      rw [pur_at rfl, e]
      rw [ea]
      intro z
      obtain ⟨p, hp, e2⟩ := List.mem_map.mp z
      have e3 : p.1 = a := e2
      rw [← e3, hT p hp] at e
      exact hu _ (Option.some.inj e).symm
    refine .cons (.lst ?_ (RepL.ofInts ns)) .nil
    rcases hS with (h | ⟨o, h⟩) | h
    · exact .inl (.inl (hna _ (fun ps z => by cases z) h))
    · exact .inl (.inr ⟨o, hna _ (fun ps z => by cases z) h⟩)
    · exact .inr h
  · intro H' cs' v d s r e
    subst e
    cases r
    rfl
end DL
namespace DL
open PySem PySem.Spec PyProof.Rows L2 LamX
theorem fd_same {K : PySem.W.Frag} {f : Addr} {x x' qual qual' : Str} {params params' : Arguments} {body body' : List Stmt} {scope scope' : Scope} {dvs dvs' : List V} {kws kws' : List (Str × V)} {fd fd' : FuncData} (F : FunD K x qual params body scope dvs kws f fd) (F' : FunD K x' qual' params' body' scope' dvs' kws' f fd') : fd = fd' := by
  obtain ⟨_, _, _, _, _, _, _, _, _, _, _, lk, _⟩ := F.ex
  obtain ⟨_, _, _, _, _, _, _, _, _, _, _, lk', _⟩ := F'.ex
  rw [lk] at lk'
  injection lk' with e
  injection e with _ _ e
  injection e
end DL
namespace DL
open PySem PySem.Spec PyProof.Rows L2
theorem look_cons_ne {p q : Addr} {cs : Cs} {b : MO} (h : q ≠ p) : look q ((p, b) :: cs) = look q cs := by
  show (if p = q then some b else look q cs) = look q cs
  rw [if_neg (fun z => h z.symm)]
theorem r_eqSs {cs : Cs} {P : DP} {x : Str} (h : P (.bl true) cs) : oEq (.str x) (.str x) cs P := ⟨rfl, rfl, by rw [show eqD (.str x) (.str x) = true from by simp [eqD]]; exact h⟩
theorem r_neSs {cs : Cs} {P : DP} {x : Str} (h : P (.bl false) cs) : oNe (.str x) (.str x) cs P := ⟨rfl, rfl, by rw [show eqD (.str x) (.str x) = true from by simp [eqD]]; exact h⟩
theorem tb_step {p q : Addr} {c c' : Cs} {m : MO} (a : BagStep p c c') (h : q ≠ p) (e : look q c = some m) : look q c' = some m := (a.look h).trans e
theorem tb_cons {p q : Addr} {c : Cs} {b m : MO} (h : q ≠ p) (e : look q c = some m) : look q ((p, b) :: c) = some m := (look_cons_ne h).trans e
theorem tb_put {p q : Addr} {c : Cs} {b m : MO} (h : q ≠ p) (e : look q c = some m) : look q (put p b c) = some m := (look_put_ne h).trans e
section
variable {L : List Str} {we : DL.WE} {ρ : DL.Env} {cs : Cs} {P : DP} {Z : XZ}
theorem r_ask (h : we ρ cs (fun d cs1 => P (.tup [d, .str ""]) cs1) (fun x cs1 => x.cls ∈ L ∧ ∃ y, x.fs.lookup ("called" : Str) = some y ∧ P (.tup [.non, y]) cs1)) : tAskD L we ρ cs P Z := h
theorem r_why (h : we ρ cs (fun d cs1 => P (.str "") cs1) (fun x cs1 => x.cls ∈ L ∧ ∃ y, x.fs.lookup ("called" : Str) = some y ∧ P y cs1)) : tWhyD L we ρ cs P Z := h
end
end DL
namespace DL
open PySem PySem.Spec PyProof.Rows L2 LamX
end DL
namespace DL
open PySem PySem.Spec PyProof.Rows L2
section
variable {X : Cx} {W : WX} {K : PySem.W.Frag} {b : Expr} {es : List Expr} {w : WA} {wb : DL.WE} {p1 pos : Pos}
def wLRep (w : WA) (wb : DL.WE) : DL.WE := fun ρ cs P Z => w ρ cs (fun ds cs1 => wb ρ cs1 (fun y cs2 => ∃ k : Nat, y = .int (k : Int) ∧ ds.length * k ≤ 100000 ∧ k ≤ 100000 ∧ P (.lst (List.replicate k ds).flatten) cs2) Z) Z
theorem r_lrep {ρ : DL.Env} {cs : Cs} {P : DP} {Z : XZ} (h : w ρ cs (fun ds cs1 => wb ρ cs1 (fun y cs2 => ∃ k : Nat, y = .int (k : Int) ∧ ds.length * k ≤ 100000 ∧ k ≤ 100000 ∧ P (.lst (List.replicate k ds).flatten) cs2) Z) Z) : wLRep w wb ρ cs P Z := h
theorem r_lrepE {ds : List D} {k : Nat} {P : DP} {cs : Cs} (h1 : ds.length * k ≤ 100000) (h2 : k ≤ 100000) (h : P (.lst (List.replicate k ds).flatten) cs) : ∃ k' : Nat, D.int (k : Int) = .int (k' : Int) ∧ ds.length * k' ≤ 100000 ∧ k' ≤ 100000 ∧ P (.lst (List.replicate k' ds).flatten) cs := ⟨k, rfl, h1, h2, h⟩
end
end DL
namespace DL
open PySem PySem.Spec PyProof.Rows L2
def pickL {α : Type} (is : List Nat) (xs : List α) : List α := is.filterMap fun i => xs[i]?
section
variable {X : Cx} {W : WX} {e : Expr} {es : List Expr} {w wk : WA} {x : Str} {p pos : Pos}
def wCallG (sp : DSp) (is : List Nat) (ms : List D) (w wk : WA) : DL.WE := fun ρ cs P Z => w ρ cs (fun ds cs1 => wk ρ cs1 (fun zs cs2 => sp (ds ++ pickL is (ms ++ zs)) cs2 P Z) Z) Z
variable {sp : DSp} {is : List Nat} {ms : List D} {ρ : DL.Env} {cs : Cs} {P : DP} {Z : XZ}
theorem r_callG (h : w ρ cs (fun ds cs1 => wk ρ cs1 (fun zs cs2 => sp (ds ++ pickL is (ms ++ zs)) cs2 P Z) Z) Z) : wCallG sp is ms w wk ρ cs P Z := h
theorem r_pk1 {ds xs : List D} {i : Nat} {a : D} (ha : xs[i]? = some a) (h : sp (ds ++ [a]) cs P Z) : sp (ds ++ pickL [i] xs) cs P Z := by
  unfold pickL
  simp only [List.filterMap_cons, ha, List.filterMap_nil]
  exact h
theorem r_pk2 {ds xs : List D} {i j : Nat} {a b : D} (ha : xs[i]? = some a) (hb : xs[j]? = some b) (h : sp (ds ++ [a, b]) cs P Z) : sp (ds ++ pickL [i, j] xs) cs P Z := by
  unfold pickL
  simp only [List.filterMap_cons, ha, hb, List.filterMap_nil]
  exact h
end
end DL
namespace DL
open PySem PySem.Spec PyProof.Rows L2
section
variable {X : Cx} {W : WX} {e b : Expr} {we wb : DL.WE} {lo hi : Option Expr} {wl wh : WO} {p1 p2 pos : Pos}
def wSlRep (we : DL.WE) (wl wh : WO) (wb : DL.WE) : DL.WE := fun ρ cs P Z => we ρ cs (fun x cs1 => wl ρ cs1 (fun l cs2 => wh ρ cs2 (fun u cs3 => match x with
  | .lst xs => wb ρ cs3 (fun y cs4 => ∃ k : Nat, y = .int (k : Int) ∧ (cutD xs l u).length * k ≤ 100000 ∧ k ≤ 100000 ∧ P (.lst (List.replicate k (cutD xs l u)).flatten) cs4) Z
  | _ => False) Z) Z) Z
theorem r_slrep {ρ : DL.Env} {cs : Cs} {P : DP} {Z : XZ} (h : we ρ cs (fun x cs1 => wl ρ cs1 (fun l cs2 => wh ρ cs2 (fun u cs3 => match x with
  | .lst xs => wb ρ cs3 (fun y cs4 => ∃ k : Nat, y = .int (k : Int) ∧ (cutD xs l u).length * k ≤ 100000 ∧ k ≤ 100000 ∧ P (.lst (List.replicate k (cutD xs l u)).flatten) cs4) Z
  | _ => False) Z) Z) Z) : wSlRep we wl wh wb ρ cs P Z := h
end
section
variable {b : Bx} {cs : Cs} {P : DP}
theorem r_slB {lo hi : Option Int} (h : P (.tup (DL.cutD [dR b.l, dR b.t, dR b.w, dR b.h] lo hi)) cs) : oSlT b.d lo hi cs P := h
theorem r_listB (h : P (.lst [dR b.l, dR b.t, dR b.w, dR b.h]) cs) : oList [b.d] cs P := h
theorem r_lenB (h : P (.int 4) cs) : oLen [b.d] cs P := h
theorem r_catB {xs : List D} (hl : xs.length ≤ 1000) (h : P (.tup ([dR b.l, dR b.t, dR b.w, dR b.h] ++ xs)) cs) : oCatT b.d (.tup xs) cs P := ⟨by show 4 + xs.length ≤ _; omega, h⟩
end
end DL
namespace DL
open PySem PySem.Spec PyProof.Rows L2
end DL
namespace DL
open PySem L2
inductive Tr where
  | lf
  | nd (dn : Bool) (a b : Tr)
def Tr.d : Tr → D
  | .lf => .tup []
  | .nd dn a b => .tup [sideD dn, a.d, b.d]
def Tr.n : Tr → Nat
  | .lf => 1
  | .nd _ a b => a.n + b.n
def twoW (ws : List Int) (k : Nat) : List Int := [(ws.take k).sum, (ws.drop k).sum]
def fstB (b : Bx) (ws : List Int) (k : Nat) (dn : Bool) : Bx := splitAt_ b (twoW ws k) dn 0
def sndB (b : Bx) (ws : List Int) (k : Nat) (dn : Bool) : Bx := splitAt_ b (twoW ws k) dn 1
theorem WtOk.take {ws : List Int} (h : WtOk ws) {k : Nat} (h0 : 1 ≤ k) (h1 : k < ws.length) : WtOk (ws.take k) := by
  have := h.l1
  refine ⟨by rw [List.length_take]; omega, by rw [List.length_take]; omega, fun w hw => h.rg w (List.mem_of_mem_take hw)⟩
theorem WtOk.drop {ws : List Int} (h : WtOk ws) {k : Nat} (h1 : k < ws.length) : WtOk (ws.drop k) := by
  have := h.l1
  refine ⟨by rw [List.length_drop]; omega, by rw [List.length_drop]; omega, fun w hw => h.rg w (List.mem_of_mem_drop hw)⟩
/-- sizes of a box that was split so often -/
structure Bx.Lv (b : Bx) (k : Nat) : Prop where
  l : DL.Sz (202 + 320 * k) b.l
  t : DL.Sz (202 + 320 * k) b.t
  w : DL.Sz (202 + 23 * k) b.w
  h : DL.Sz (202 + 23 * k) b.h
theorem Bx.Lv.sz {b : Bx} {k : Nat} (h : b.Lv k) (hk : k ≤ 5) : b.Sz 1900 := ⟨h.l.mono (by omega), h.t.mono (by omega), h.w.mono (by omega), h.h.mono (by omega)⟩
def tw : Tr → Bx → List Int → Rat
  | .lf, b, _ => shapeR b.w b.h
  | .nd dn x y, b, ws => mxR (tw x (fstB b ws x.n dn) (ws.take x.n)) (tw y (sndB b ws x.n dn) (ws.drop x.n))
/-- r is the least worst shape of all trees -/
structure LeastT (b : Bx) (ws : List Int) (r : Rat) : Prop where
  is : ∃ t : Tr, t.n = ws.length ∧ tw t b ws = r
  le : ∀ t : Tr, t.n = ws.length → r ≤ tw t b ws
theorem LeastT.uniq {b : Bx} {ws : List Int} {r s : Rat} (h : LeastT b ws r) (h' : LeastT b ws s) : r = s := by
  obtain ⟨t, e1, e2⟩ := h.is
  obtain ⟨u, e3, e4⟩ := h'.is
  exact Rat.le_antisymm (e4 ▸ h.le u e3) (e2 ▸ h'.le t e1)
/-- the least of the two sides, of all places -/
def spotL (n : Nat) : List (Bool × Nat) := (List.range (n - 1)).map (fun i => (true, i + 1)) ++ (List.range (n - 1)).map (fun i => (false, i + 1))
end DL
namespace DL
open PySem PySem.Spec PyProof.Rows L2
section
variable {X : Cx} {W : WX} {es : List Expr} {pos : Pos}
def gL (n : Nat) (gs : WGs) : WG := fun d ρ k => match d with
  | .lst ds => ds.length = n ∧ gs ds ρ k
  | _ => False
theorem r_gL {n : Nat} {gs : WGs} {ds : List D} {ρ : DL.Env} {k : DL.Env → Prop} (hl : ds.length = n) (h : gs ds ρ k) : gL n gs (.lst ds) ρ k := ⟨hl, h⟩
end
end DL
namespace DL
open PySem
open PySem.Sem (wp)
def sqH (t : Bool) (h : Heap) (l : Addr) (xs : Array Value) : Prop := match t with
  | true => h.IsTuple l xs
  | false => h.IsList l xs
def sqI (t : Bool) (h : Heap) (it l : Addr) (i : Nat) : Prop := match t with
  | true => h.IsTupleIter it l i
  | false => h.IsListIter it l i
def itC : Bool → String
  | true => "tuple_iterator"
  | false => "list_iterator"
theorem sqI_iff {t : Bool} {h : Heap} {it l : Addr} {i : Nat} : sqI t h it l i ↔ ∃ o, h.get? it = some o ∧ o.cls = .type (itC t) ∧ o.data = .fields #[.ref l, .int i 0] := by cases t <;> exact Iff.rfl
theorem sqH.ext {t : Bool} {h h' : Heap} {a b : Addr} {xs : Array Value} (x : sqH t h a xs) (hs : Heap.ExtBut b h h') (hab : a ≠ b) : sqH t h' a xs := by
  cases t
  · exact Heap.IsList.extBut x hs hab
  · exact Heap.IsTuple.extBut x hs hab
theorem sqH.push {t : Bool} {h : Heap} {a : Addr} {xs : Array Value} (x : sqH t h a xs) (o : Obj) : sqH t (h.push o) a xs := by
  cases t
  · exact Heap.IsList.push x o
  · exact Heap.IsTuple.push x o
theorem sqI.ext {t : Bool} {h h' : Heap} {a l b : Addr} {i : Nat} (x : sqI t h a l i) (hs : Heap.ExtBut b h h') (hab : a ≠ b) : sqI t h' a l i := by
  obtain ⟨o, e, c, d⟩ := sqI_iff.mp x
  exact sqI_iff.mpr ⟨o, hs a o hab e, c, d⟩
theorem sqI.at {t : Bool} {h h' : Heap} {a l : Addr} {i : Nat} (x : sqI t h a l i) (hk : ∀ o, h.get? a = some o → h'.get? a = some o) : sqI t h' a l i := by
  obtain ⟨o, e, c, d⟩ := sqI_iff.mp x
  exact sqI_iff.mpr ⟨o, hk o e, c, d⟩
section
open PySem.Spec PyProof.Rows L2
def SqB (K : PySem.W.Frag) (t : Bool) (H : Hp) (a : Addr) (xs : List V) : Prop := match t with
  | true => SqT K H a xs
  | false => SqL K H a xs
theorem SqB.is {X : Cx} {pins : List (Addr × Obj)} {σ : L2.St} {H : Hp} {s : Shared} {t : Bool} {a : Addr} {xs : List V} (I : Inv X pins σ H s) (h : SqB X.K t H a xs) : ∃ its : List Value, Vals xs its ∧ sqH t s.heap a its.toArray := by
  cases t
  · obtain ⟨its, r, p, _⟩ := I.list h
    exact ⟨its, r, p.isList⟩
  · obtain ⟨its, r, p, _⟩ := I.tuple h
    exact ⟨its, r, p⟩
theorem SqB.inj {X : Cx} {pins : List (Addr × Obj)} {σ : L2.St} {H : Hp} {s : Shared} {t : Bool} {a : Addr} {xs ys : List V} (I : Inv X pins σ H s) (h : SqB X.K t H a xs) (h' : SqB X.K t H a ys) : xs = ys := by
  cases t
  · exact I.list_inj h h'
  · exact I.tuple_inj h h'
end
section
open PySem.Spec PyProof.Rows L2
variable {X : Cx} {W : WX} {K : PySem.W.Frag}
/-- the items of a list or a tuple -/
def itemsD : D → Option (List D)
  | .lst xs => some xs
  | .tup xs => some xs
  | _ => none
def iZm (w : WA) : WI := fun ρ cs P Z => w ρ cs (fun ds cs1 => ∃ d e xs ys, ds = [d, e] ∧ itemsD d = some xs ∧ itemsD e = some ys ∧ P (List.zipWith (fun d e => D.tup [d, e]) xs ys) cs1) Z
theorem r_zipM {w : WA} {ρ : DL.Env} {cs : Cs} {P : List D → Cs → Prop} {Z : XZ} (h : w ρ cs (fun ds cs1 => ∃ d e xs ys, ds = [d, e] ∧ itemsD d = some xs ∧ itemsD e = some ys ∧ P (List.zipWith (fun d e => D.tup [d, e]) xs ys) cs1) Z) : iZm w ρ cs P Z := h
end
end DL
namespace DL
open PySem L2
def halfB (b : Bx) (ws : List Int) (p : Bool × Nat) (h : Bool) : Bx := if h then sndB b ws p.2 p.1 else fstB b ws p.2 p.1
def halfW (ws : List Int) (k : Nat) (h : Bool) : List Int := if h then ws.drop k else ws.take k
def bitD (h : Bool) : D := .int (if h then 1 else 0)
/-- a paper's pair: which half, and its paper -/
def PairOk (S : Bool → D → Prop) (x : D) : Prop := ∃ h e, x = .tup [bitD h, e] ∧ S h e
/-- the paper stands -/
def St (r : Rat) : Nat → Bx → List Int → D → Prop
  | 0, _, _, _ => False
  | n + 1, b, ws, d => (ws.length = 1 ∧ d = .tup [] ∧ r ≤ shapeR b.w b.h) ∨ (1 < ws.length ∧ ∃ xs, d = .tup xs ∧ xs.length = (spotL ws.length).length ∧ ∀ (i : Nat) (s : Bool × Nat) (x : D), (spotL ws.length)[i]? = some s → xs[i]? = some x → PairOk (fun h e => St r n (halfB b ws s h) (halfW ws s.2 h) e) x)
mutual
def lnD (L : Nat) : D → Bool
  | .tup xs => decide (xs.length ≤ L) && lnL L xs
  | .lst xs => decide (xs.length ≤ L) && lnL L xs
  | _ => true
def lnL (L : Nat) : List D → Bool
  | [] => true
  | d :: ds => lnD L d && lnL L ds
end
theorem lnL_iff {L : Nat} : ∀ {xs : List D}, lnL L xs = true ↔ ∀ x ∈ xs, lnD L x = true
  | [] => ⟨fun _ _ h => (nomatch h), fun _ => rfl⟩
  | d :: ds => by
    simp only [lnL, Bool.and_eq_true, List.mem_cons, forall_eq_or_imp, lnL_iff (xs := ds)]
mutual
theorem lnD_mono {L M : Nat} (h : L ≤ M) : ∀ (d : D), lnD L d = true → lnD M d = true
  | .tup xs, q => by
    simp only [lnD, Bool.and_eq_true, decide_eq_true_eq] at q ⊢
    exact ⟨by omega, lnL_mono h xs q.2⟩
  | .lst xs, q => by
    simp only [lnD, Bool.and_eq_true, decide_eq_true_eq] at q ⊢
    exact ⟨by omega, lnL_mono h xs q.2⟩
  | .non, _ => rfl
  | .bl _, _ => rfl
  | .int _, _ => rfl
  | .str _, _ => rfl
  | .dic _, _ => rfl
  | .dct _, _ => rfl
  | .ins _ _, _ => rfl
  | .xcp _ _ _ _, _ => rfl
  | .opq _, _ => rfl
theorem lnL_mono {L M : Nat} (h : L ≤ M) : ∀ (d : List D), lnL L d = true → lnL M d = true
  | [], _ => rfl
  | d :: ds, q => by
    simp only [lnL, Bool.and_eq_true] at q ⊢
    exact ⟨lnD_mono h d q.1, lnL_mono h ds q.2⟩
end
/-- such data: so deep, so wide -/
structure Fw (N L : Nat) (d : D) : Prop where
  p : plD N d = true
  l : lnD L d = true
theorem Fw.tup {N L : Nat} {xs : List D} (h : Fw (N + 1) L (.tup xs)) : xs.length ≤ L ∧ ∀ x ∈ xs, Fw N L x := by
  have l := h.l
  simp only [lnD, Bool.and_eq_true, decide_eq_true_eq] at l
  exact ⟨l.1, fun x hx => ⟨plL_mem (plD_t h.p) hx, lnL_iff.mp l.2 x hx⟩⟩
theorem Fw.mono {N L M : Nat} {d : D} (h : Fw N L d) (hL : L ≤ M) : Fw N M d := ⟨h.p, lnD_mono hL d h.l⟩
end DL
namespace DL
open PySem L2
end DL
namespace DL
open PySem PySem.Spec PyProof.Rows L2
section
variable {X : Cx} {W : WX} {e : Expr} {we : DL.WE} {K : PySem.W.Frag}
def oRevL : D → Cs → DP → Prop := fun x cs P => ∃ xs, x = .lst xs ∧ P (.lst xs.reverse) cs
def wRevL (we : DL.WE) : DL.WE := fun ρ cs P Z => we ρ cs (fun x cs1 => oRevL x cs1 P) Z
theorem r_revL {ρ : DL.Env} {cs : Cs} {P : DP} {Z : XZ} (h : we ρ cs (fun x cs1 => oRevL x cs1 P) Z) : wRevL we ρ cs P Z := h
theorem r_revLL {xs : List D} {cs : Cs} {P : DP} (h : P (.lst xs.reverse) cs) : oRevL (.lst xs) cs P := ⟨xs, rfl, h⟩
end
end DL
namespace DL
open PySem PySem.Spec PyProof.Rows L2
/-- what is asked of a check -/
structure Due (y : Str) (P : Prop) (Q : Str → Prop) : Prop where
  ok : y = "" → P
  no : y ≠ "" → Q y
theorem Due.of {y : Str} {P : Prop} {Q : Str → Prop} (e : y = "") (h : P) : Due y P Q := ⟨fun _ => h, fun z => absurd e z⟩
end DL
namespace DL
open PySem PySem.Spec PyProof.Rows L2
section
variable {X : Cx} {W : WX} {K : PySem.W.Frag} {σ : L2.St} {H : Hp} {a b e tg : Expr} {es : List Expr} {wa wb we wo : DL.WE} {w : WA} {pos apos cpos : Pos}
/-- one sign -/
abbrev sgn (c : Nat) : D := .str ⟨#[c]⟩
def oIxS : DO2 := fun x y cs P => match x, y with
  | .str z, .int i => z.length ≤ 100000 ∧ ∃ c, atI z.cps.toList i = some c ∧ P (sgn c) cs
  | _, _ => False
theorem adq_ixS : Adq K (rIx K) oIxS := fun F cs H x y dx dy P Q s rx ry ho pe => by
  unfold oIxS at ho
  split at ho
  · obtain ⟨hz, c, e2, h⟩ := ho
    cases rx
    cases ry
    exact .inr (.inr ⟨_, _, c, rfl, rfl, Nat.le_trans hz (by decide), e2, pe H cs _ _ s (.str _) h⟩)
  · exact ho.elim
theorem d_ixS (ha : DE X W a wa) (hb : DE X W b wb) (hs : PlainIx b := by intro _ _; rfl) : DE X W (.Subscript a b pos) (wOp oIxS wa wb) := d_ix ix_seq adq_ixS ha hb hs
def oSlS : D → Option Int → Option Int → Cs → DP → Prop := fun x lo hi cs P => match x with
  | .str z => z.length ≤ 100000 ∧ P (.str (cutS z lo hi)) cs
  | _ => False
theorem adq_slS : AdqS K rSlS oSlS := fun F cs H x dx lo hi P Q s rx ho pe => by
  unfold oSlS at ho
  split at ho
  · cases rx
    exact ⟨_, rfl, Nat.le_trans ho.1 (by decide), pe H cs _ _ s (.str _) ho.2⟩
  · exact ho.elim
def oCatS : DO2 := fun x y cs P => match x, y with
  | .str i, .str j => i.length + j.length ≤ 100000 ∧ P (.str (i ++ j)) cs
  | _, _ => False
theorem adq_catS : Adq K (fun x y H Q => ∃ i j, x = .str i ∧ y = .str j ∧ i.length + j.length ≤ sizeLine ∧ Q (.str (i ++ j)) H) oCatS := fun F cs H x y dx dy P Q s rx ry ho pe => by
  unfold oCatS at ho
  split at ho
  · cases rx; cases ry
    exact ⟨_, _, rfl, rfl, Nat.le_trans ho.1 (by decide), pe H cs _ _ s (.str _) ho.2⟩
  · exact ho.elim
theorem d_catS (ha : DE X W a wa) (hb : DE X W b wb) : DE X W (.BinOp a .Add b pos) (wOp oCatS wa wb) := d_op op_add_str adq_catS ha hb
def oInS : DO2 := fun x y cs P => match y with
  | .str z => ∃ c, x = sgn c ∧ P (.bl (decide (c ∈ z.cps.toList))) cs
  | _ => False
theorem adq_inS : Adq K (fun x y H Q => ∃ (c : Nat) (z : Str), x = .str ⟨#[c]⟩ ∧ y = .str z ∧ Q (.bl (decide (c ∈ z.cps.toList))) H) oInS := fun F cs H x y dx dy P Q s rx ry ho pe => by
  unfold oInS at ho
  split at ho
  · obtain ⟨c, rfl, h⟩ := ho
    cases rx; cases ry
    exact ⟨_, _, rfl, rfl, pe H cs _ _ s (.bl _) h⟩
  · exact ho.elim
theorem d_inS (ha : DE X W a wa) (hb : DE X W b wb) (hm : behindInMarks .In b = false := by rfl) : DE X W (.Compare a [.In] [b] pos) (wOp oInS wa wb) := d_cmp op_in_sign adq_inS ha hb hm
def iStrD (we : DL.WE) : WI := fun ρ cs P Z => we ρ cs (fun d cs1 => match d with
  | .str z => P (z.cps.toList.map sgn) cs1
  | _ => False) Z
theorem yi_str {G : Hp} (z : Str) : YI K (Its z) G (z.cps.toList.map sgn) where
  go := fun i d e F cs H s => by
    rw [List.getElem?_map] at e
    obtain ⟨c, hc, _⟩ := Option.map_eq_some_iff.mp e
    have h2 := (List.getElem?_eq_some_iff.mp hc).1
    show i < z.cps.size
    simpa using h2
  yld := fun i d e F cs H x H' s hy => by
    obtain ⟨e1, c, hc, rfl⟩ := hy
    subst e1
    rw [List.getElem?_map] at e
    obtain ⟨c', hc', rfl⟩ := Option.map_eq_some_iff.mp e
    rw [Array.getElem?_toList, hc] at hc'
    cases hc'
    exact ⟨s.self, .str _⟩
  stop := fun F cs H s => by
    show z.cps.size ≤ _
    rw [List.length_map, Array.length_toList]
    exact Nat.le_refl _
theorem di_str (h : DE X W e we) : DI X W tg e (iStrD we) := PI.imp (pi_str h) fun σ H R hq => by
  obtain ⟨F, cs, ρ, P, Z, s, re, hw, pe, px⟩ := hq
  refine ⟨F, cs, ρ, _, Z, s, re, hw, fun H1 cs1 v d s1 r1 h1 => ?_, px⟩
  cases d <;> try exact h1.elim
  cases r1
  exact ⟨_, rfl, pe H1 cs1 _ _ s1 (yi_str _) h1⟩
def oLenS : DOn := fun ds cs P => match ds with
  | [.str z] => z.length ≤ 100000 ∧ P (.int z.length) cs
  | _ => False
theorem adq_lenS : AdqN K (fun xs H Q => ∃ z, xs = [.str z] ∧ z.length ≤ sizeLine ∧ Q (.int z.length) H) oLenS := fun F cs H xs ds P Q s r ho pe => by
  unfold oLenS at ho
  split at ho
  · cases r with
    | cons h t => cases h; cases t; exact ⟨_, rfl, Nat.le_trans ho.1 (by decide), pe H cs _ _ s (.int _) ho.2⟩
  · exact ho.elim
def oStrI : DOn := fun ds cs P => match ds with
  | [.int i] => i.natAbs.log2 < 1920 ∧ P (.str (toString i : String)) cs
  | _ => False
theorem adq_strI : AdqN K (fun xs H Q => ∃ i, xs = [.int i] ∧ i.natAbs.log2 < 1920 ∧ Q (.str (toString i)) H) oStrI := fun F cs H xs ds P Q s r ho pe => by
  unfold oStrI at ho
  split at ho
  · cases r with
    | cons h t => cases h; cases t; exact ⟨_, rfl, ho.1, pe H cs _ _ s (.str _) ho.2⟩
  · exact ho.elim
def oIntS : DOn := fun ds cs P => match ds with
  | [.str z] => ∃ n, PySem.intText? z = some n ∧ z.length ≤ 640 ∧ P (.int n) cs
  | _ => False
theorem adq_intS : AdqN K (fun xs H Q => ∃ a n, xs = [.str a] ∧ PySem.intText? a = some n ∧ a.length ≤ 640 ∧ Q (.int n) H) oIntS := fun F cs H xs ds P Q s r ho pe => by
  unfold oIntS at ho
  split at ho
  · obtain ⟨n, h1, h2, h3⟩ := ho
    cases r with
    | cons h t => cases h; cases t; exact ⟨_, n, rfl, h1, h2, pe H cs _ _ s (.int _) h3⟩
  · exact ho.elim
def oIntB : DOn := fun ds cs P => match ds with
  | [.bl k] => P (.int (if k then 1 else 0)) cs
  | [.int i] => P (.int i) cs
  | _ => False
theorem adq_intB : AdqN K (fun xs H Q => (∃ i, xs = [.int i] ∧ Q (.int i) H) ∨ ∃ k, xs = [.bl k] ∧ Q (.int (if k then 1 else 0)) H) oIntB := fun F cs H xs ds P Q s r ho pe => by
  unfold oIntB at ho
  split at ho
  · cases r with
    | cons h t => cases h; cases t; exact .inr ⟨_, rfl, pe H cs _ _ s (.int _) ho⟩
  · cases r with
    | cons h t => cases h; cases t; exact .inl ⟨_, rfl, pe H cs _ _ s (.int _) ho⟩
  · exact ho.elim
theorem RepL.ofStrs {G : Hp} : ∀ (ns : List Str), RepL K G (ns.map V.str) (ns.map D.str)
  | [] => .nil
  | n :: ns => .cons (.str n) (RepL.ofStrs ns)
/-- x.m(y), x a text -/
def wM1 (o : DO2) (wo we : DL.WE) : DL.WE := fun ρ cs P Z => wo ρ cs (fun x cs1 => (∃ z, x = .str z) ∧ we ρ cs1 (fun y cs2 => o x y cs2 P) Z) Z
theorem m1_ok {r : V → List V → Hp → VK → Prop} {o : DO2} (adq : Adq K (fun x y H Q => r x [y] H Q) o) {Q : VK} : lE K W (wM1 o wo we) σ H Q → tM1 r (lE K W wo) (lE K W we) σ H Q := by
  rintro ⟨F, cs, ρ, P, Z, s, re, hw, pe, px⟩
  refine ⟨F, cs, ρ, _, Z, s, re, hw, fun H1 cs1 v d s1 r1 h1 => ?_, px⟩
  obtain ⟨⟨z, rfl⟩, h1⟩ := h1
  refine ⟨by cases r1; exact ⟨_, rfl⟩, F, cs1, ρ, _, Z, s1.self, re.mono s1.gr, h1, fun H2 cs2 v2 d2 s2 r2 h2 => ?_, px.le s1.gr⟩
  exact adq F cs2 H2 v v2 _ d2 P Q s2.self (r1.mono s2.gr) r2 h2 (pe.le (s1.gr.trans s2.gr))
def oPartn : DO2 := fun x y cs P => match x, y with
  | .str z, .str t => (t.length == 0) = false ∧ z.length ≤ 100000 ∧ P (.tup [.str (Txt.partition z t).1, .str (Txt.partition z t).2.1, .str (Txt.partition z t).2.2]) cs
  | _, _ => False
theorem adq_partn : Adq K (fun x y H Q => ∃ a b, x = .str a ∧ [y] = [.str b] ∧ (b.length == 0) = false ∧ a.length ≤ sizeLine ∧ ∀ p, H p = none → Q (.ref p) (upd H p (.tup [.str (Txt.partition a b).1, .str (Txt.partition a b).2.1, .str (Txt.partition a b).2.2]))) oPartn := fun F cs H x y dx dy P Q s rx ry ho pe => by
  unfold oPartn at ho
  split at ho
  · cases rx
    cases ry
    refine ⟨_, _, rfl, rfl, ho.1, Nat.le_trans ho.2.1 (by decide), fun p hp => ?_⟩
    obtain ⟨s2, e2⟩ := s.new (o := .tup _) hp
    exact pe _ cs _ _ s2 (.tup (SqT.of e2) (.cons (.str _) (.cons (.str _) (.cons (.str _) .nil)))) ho.2.2
  · exact ho.elim
theorem d_partn (ho : DE X W a wa) (he : DE X W e we) (hs : starEach [e] X.env = [(false, eval e X.env)] := by rfl) (hbase : attributeBase a "partition" X.env (eval a X.env) = eval a X.env := by rfl) (hline : (apos.endLine == pos.line) = true := by rfl) :
    DE X W (.Call (.Attribute a "partition" apos) [e] [] pos) (wM1 oPartn wa we) := PE.imp (pe_partition ho he hs hbase hline) fun σ H Q h => m1_ok adq_partn h
def wFmt (we : DL.WE) : DL.WE := fun ρ cs P Z => we ρ cs (fun x cs1 => match x with
  | .str y => y.length ≤ 100000 ∧ P (.str y) cs1
  | .int i => i.natAbs.log2 < 1920 ∧ P (.str (toString i : String)) cs1
  | _ => False) Z
theorem fmt_inv {x : D} {cs : Cs} {P : DP} (h : (match x with | .str y => y.length ≤ 100000 ∧ P (.str y) cs | .int i => i.natAbs.log2 < 1920 ∧ P (.str (toString i : String)) cs | _ => False)) : (∃ y, x = .str y ∧ y.length ≤ 100000 ∧ P (.str y) cs) ∨ ∃ i, x = .int i ∧ i.natAbs.log2 < 1920 ∧ P (.str (toString i : String)) cs := by
  cases x <;> first | exact h.elim | exact .inl ⟨_, rfl, h⟩ | exact .inr ⟨_, rfl, h⟩
theorem d_fmt (h : DE X W e we) : DE X W (.FormattedValue e (-1) none pos) (wFmt we) := PE.imp (pe_fmt h) fun σ H Q hq => by
  obtain ⟨F, cs, ρ, P, Z, s, re, hw, pe, px⟩ := hq
  refine ⟨F, cs, ρ, _, Z, s, re, hw, fun H1 cs1 v d s1 r1 h1 => ?_, px⟩
  rcases fmt_inv h1 with ⟨y, rfl, h2, h3⟩ | ⟨i, rfl, h2, h3⟩
  · cases r1
    exact .inl ⟨_, rfl, Nat.le_trans h2 (by decide), pe H1 cs1 _ _ s1 (.str _) h3⟩
  · cases r1
    exact .inr ⟨_, rfl, h2, pe H1 cs1 _ _ s1 (.str _) h3⟩
/-- the parts -/
inductive DJ (X : Cx) (W : WX) : List Expr → List DL.WE → Prop
  | nil : DJ X W [] []
  | cons {e : Expr} {we : DL.WE} {es : List Expr} {ws : List DL.WE} (h : DE X W e we) (r : DJ X W es ws) : DJ X W (e :: es) (we :: ws)
theorem DJ.pj {ws : List DL.WE} (h : DJ X W es ws) : PJ X es (ws.map (lE X.K W)) := by
  induction h with
  | nil => exact .nil
  | cons h r ih => exact .cons h ih
def wJs : List DL.WE → Str → Env → Cs → (Str → Cs → Prop) → XZ → Prop
  | [], acc, _, cs, Q, _ => Q acc cs
  | we :: ws, acc, ρ, cs, Q, Z => we ρ cs (fun x cs1 => match x with
    | .str y => (acc ++ y).length ≤ 100000 ∧ wJs ws (acc ++ y) ρ cs1 Q Z
    | _ => False) Z
def wJoined (ws : List DL.WE) : DL.WE := fun ρ cs P Z => wJs ws Str.empty ρ cs (fun y cs1 => P (.str y) cs1) Z
theorem js_ok : ∀ (ws : List DL.WE) (acc : Str) {F : Hp} {cs : Cs} {ρ : DL.Env} {H : Hp} {P : Str → Cs → Prop} {Z : XZ} {Q : Str → Hp → Prop}, Sta K F (pur F cs H) cs H → RepE K (pur F cs H) σ ρ → wJs ws acc ρ cs P Z →
    (∀ H' cs' y, Sta K F (pur F cs H) cs' H' → P y cs' → Q y H') → PostX K F (pur F cs H) Z (fun c d H' => W c d σ H') → tJs (ws.map (lE K W)) acc σ H Q
  | [], acc, F, cs, ρ, H, P, Z, Q, s, re, hw, pe, px => pe H cs acc s hw
  | we :: ws, acc, F, cs, ρ, H, P, Z, Q, s, re, hw, pe, px => by
    refine ⟨F, cs, ρ, _, Z, s, re, hw, fun H1 cs1 v d s1 r1 h1 => ?_, px⟩
    cases d <;> try exact h1.elim
    cases r1
    exact ⟨_, rfl, Nat.le_trans h1.1 (by decide), js_ok ws _ s1.self (re.mono s1.gr) h1.2 (fun H' cs' y s' => pe H' cs' y (s'.from_ s1.gr)) (px.le s1.gr)⟩
theorem d_joined {v1 v2 : Expr} {rest : List Expr} {ws : List DL.WE} (h : DJ X W (v1 :: v2 :: rest) ws) : DE X W (.JoinedStr (v1 :: v2 :: rest) pos) (wJoined ws) := PE.imp (pe_joined h.pj) fun σ H Q hq => by
  obtain ⟨F, cs, ρ, P, Z, s, re, hw, pe, px⟩ := hq
  exact js_ok ws _ s re hw (fun H' cs' y s' hp => pe H' cs' _ _ s' (.str y) hp) px
end
section
variable {ρ : DL.Env} {cs : Cs} {P : DP} {Z : XZ} {we wo : DL.WE} {z t : Str}
theorem r_ixS {i : Int} {c : Nat} (hz : z.length ≤ 100000) (e : atI z.cps.toList i = some c) (h : P (sgn c) cs) : oIxS (.str z) (.int i) cs P := ⟨hz, c, e, h⟩
theorem r_slS {lo hi : Option Int} (hz : z.length ≤ 100000) (h : P (.str (cutS z lo hi)) cs) : oSlS (.str z) lo hi cs P := ⟨hz, h⟩
theorem r_catS (hz : z.length + t.length ≤ 100000) (h : P (.str (z ++ t)) cs) : oCatS (.str z) (.str t) cs P := ⟨hz, h⟩
theorem r_inS {c : Nat} (h : P (.bl (decide (c ∈ z.cps.toList))) cs) : oInS (sgn c) (.str z) cs P := ⟨c, rfl, h⟩
theorem r_strI {R : List D → Cs → Prop} (h : we ρ cs (fun d cs1 => match d with | .str z => R (z.cps.toList.map sgn) cs1 | _ => False) Z) : iStrD we ρ cs R Z := h
theorem r_lenS (hz : z.length ≤ 100000) (h : P (.int z.length) cs) : oLenS [.str z] cs P := ⟨hz, h⟩
theorem r_intS {n : Int} (e : PySem.intText? z = some n) (hz : z.length ≤ 640) (h : P (.int n) cs) : oIntS [.str z] cs P := ⟨n, e, hz, h⟩
theorem r_intB {k : Bool} (h : P (.int (if k then 1 else 0)) cs) : oIntB [.bl k] cs P := h
theorem r_m1 {o : DO2} (h : wo ρ cs (fun x cs1 => (∃ z, x = .str z) ∧ we ρ cs1 (fun y cs2 => o x y cs2 P) Z) Z) : wM1 o wo we ρ cs P Z := h
theorem r_isStr {R : Prop} (h : R) : (∃ z', D.str z = .str z') ∧ R := ⟨⟨_, rfl⟩, h⟩
theorem r_partn (h1 : (t.length == 0) = false) (hz : z.length ≤ 100000) (h : P (.tup [.str (Txt.partition z t).1, .str (Txt.partition z t).2.1, .str (Txt.partition z t).2.2]) cs) : oPartn (.str z) (.str t) cs P := ⟨h1, hz, h⟩
theorem r_fmt (h : we ρ cs (fun x cs1 => match x with
  | .str y => y.length ≤ 100000 ∧ P (.str y) cs1
  | .int i => i.natAbs.log2 < 1920 ∧ P (.str (toString i : String)) cs1
  | _ => False) Z) : wFmt we ρ cs P Z := h
theorem r_joined {ws : List DL.WE} (h : wJs ws Str.empty ρ cs (fun y cs1 => P (.str y) cs1) Z) : wJoined ws ρ cs P Z := h
theorem r_jsC {ws : List DL.WE} {acc : Str} {Q : Str → Cs → Prop} (h : we ρ cs (fun x cs1 => match x with
    | .str y => (acc ++ y).length ≤ 100000 ∧ wJs ws (acc ++ y) ρ cs1 Q Z
    | _ => False) Z) : wJs (we :: ws) acc ρ cs Q Z := h
theorem r_jsN {acc : Str} {Q : Str → Cs → Prop} (h : Q acc cs) : wJs [] acc ρ cs Q Z := h
end
def numT (i : Int) : Str := Str.ofString (toString i)
theorem tl_numN (n : Nat) : TL.tl (numT n) = TL.numL n := TL.tl_num n
theorem tl_numNeg {n : Nat} (h : n ≠ 0) : TL.tl (numT (-(n : Int))) = 45 :: TL.numL n := by
  obtain ⟨k, rfl⟩ : ∃ k, n = k + 1 := ⟨n - 1, by omega⟩
  have e : toString (-((k + 1 : Nat) : Int)) = "-" ++ toString (((k + 1 : Nat) : Int)) := rfl
  have e2 : TL.tl (numT (-((k + 1 : Nat) : Int))) = ("-" ++ toString (((k + 1 : Nat) : Int))).toList.map Char.toNat := by
    show TL.tl (Str.ofString (toString (-((k + 1 : Nat) : Int)))) = _
    rw [e, TL.tl_ofString]
  rw [e2, String.toList_append, List.map_append, ← TL.tl_ofString, ← TL.tl_ofString, TL.tl_num]
  rfl
theorem numL_len10 {n k : Nat} (hk : 0 < k) (h : n < 10 ^ k) : (TL.numL n).length ≤ k := TL.numL_len hk h
theorem len_tl (x : Str) : x.length = (TL.tl x).length := TL.len_tl x
theorem numT_len {a : Int} {k : Nat} (hk : 0 < k) (h : a.natAbs < 10 ^ k) : (numT a).length ≤ k + 1 := by
  rw [len_tl]
  by_cases h0 : 0 ≤ a
  · obtain ⟨n, rfl⟩ : ∃ n : Nat, a = n := ⟨a.toNat, by omega⟩
    rw [tl_numN]
    have := numL_len10 hk (show n < 10 ^ k by simpa using h)
    omega
  · obtain ⟨n, rfl, hn⟩ : ∃ n : Nat, a = -(n : Int) ∧ n ≠ 0 := ⟨a.natAbs, by omega, by omega⟩
    rw [tl_numNeg hn, List.length_cons]
    have := numL_len10 hk (show n < 10 ^ k by simpa using h)
    omega
theorem log_of {a : Int} {n : Nat} (h : a.natAbs < 2 ^ n) (hn : n ≤ 1900) : a.natAbs.log2 < 1920 := by
  by_cases h0 : a.natAbs = 0
  · rw [h0]; decide
  · exact Nat.lt_of_lt_of_le ((Nat.log2_lt h0).mpr h) (by omega)
theorem pow_1900 : (2 : Nat) ^ 1900 < 10 ^ 600 := by decide +kernel
theorem numT_sz {a : Int} (h : a.natAbs < 2 ^ 1900) : (numT a).length ≤ 601 := numT_len (by decide) (Nat.lt_trans h pow_1900)
/-- a part's text -/
def txtR (r : Rat) : Str := if (r.den : Int) = 1 then numT r.num else numT r.num ++ "/" ++ numT (r.den : Int)
/-- figures: as many as m at most, no needless nought -/
structure FigOk (l : List Nat) (m : Nat) : Prop where
  ne : l ≠ []
  len : l.length ≤ m
  dig : NumText.AllDigits l
  hd : l.head? = some 48 → l.length = 1
theorem numL_hd : ∀ n : Nat, (TL.numL n).head? = some 48 → n = 0 := by
  intro n
  induction n using Nat.strongRecOn with
  | _ n ih =>
    by_cases h : n < 10
    · rw [TL.numL_lt h]
      intro e
      have e2 : 48 + n = 48 := by simpa using e
      omega
    · rw [TL.numL_step (by omega)]
      intro e
      have hne := TL.numL_ne (n / 10)
      have e2 : (TL.numL (n / 10)).head? = some 48 := by
        cases hq : TL.numL (n / 10) with
        | nil => exact absurd hq hne
        | cons c r => rw [hq] at e; simpa using e
      have := ih (n / 10) (by omega) e2
      omega
theorem figOk_num {n m : Nat} (h : (TL.numL n).length ≤ m) : FigOk (TL.numL n) m :=
  ⟨TL.numL_ne n, h, TL.numL_digits n, fun e => by rw [numL_hd n e]; rfl⟩
theorem dig_iff (c : Nat) : c ∈ (Str.ofString "0123456789").cps.toList ↔ 48 ≤ c ∧ c ≤ 57 := by
  rw [show (Str.ofString "0123456789").cps.toList = [48, 49, 50, 51, 52, 53, 54, 55, 56, 57] by decide +kernel]
  simp only [List.mem_cons, List.not_mem_nil, or_false]
  omega
theorem atI0 {c : Nat} {l r : List Nat} (h : l = c :: r) : atI l 0 = some c := by
  subst h
  unfold atI ixN
  simp
theorem sgn_iff {c d : Nat} {z : Str} (hz : z = ⟨#[d]⟩) : (⟨#[c]⟩ : Str) = z ↔ c = d := by
  subst hz
  refine ⟨fun e => ?_, fun e => by rw [e]⟩
  have e2 := congrArg (fun s : Str => s.cps.toList) e
  simpa using e2
theorem zero_sgn : (Str.ofString "0") = ⟨#[48]⟩ := by decide +kernel
section
variable {X : Cx} {W : WX} {K : PySem.W.Frag} {σ : L2.St} {H : Hp} {a b : Expr} {wa wb : DL.WE} {pos : Pos}
theorem fold_rep (c : Nat) : ∀ (n : Nat) (a : Array Nat), ((List.replicate n #[c]).foldl (· ++ ·) a) = (a.toList ++ List.replicate n c).toArray
  | 0, a => by simp
  | n + 1, a => by
    rw [List.replicate_succ, List.foldl_cons, fold_rep c n]
    simp [List.replicate_succ]
def rMulS : R2 := fun x y H Q => ∃ (c n : Nat), x = .str ⟨#[c]⟩ ∧ y = .int (n : Int) ∧ 2 ≤ n ∧ n ≤ 1000 ∧ Q (.str ⟨(List.replicate n c).toArray⟩) H
theorem op_mulS : OpR X (binaryOp .Mult) rMulS := by
  intro pins s σ H x y v u Q I rx ry h
  obtain ⟨c, n, rfl, rfl, h2, hn, q⟩ := h
  obtain ⟨t, rfl⟩ := rx
  obtain ⟨t', rfl⟩ := ry
  refine PySem.P.mul_str (by rw [decide_eq_false (by omega), decide_eq_false (by omega)]; rfl) (fun _ _ z => ?_) (fun _ _ => ?_) ?_
  · have e : ((⟨#[c]⟩ : Str).length : Int) = 1 := rfl
    rw [e] at z
    have : (1 : Int) ≤ (2 ^ 63 - 1) / (n : Int) := (Int.le_ediv_iff_mul_le (by omega)).mpr (by omega)
    omega
  · show Builtin.Str.tooLong (1 * ((n : Int)).toNat) = false
    rw [Nat.one_mul, Int.toNat_natCast]
    exact decide_eq_false (Nat.not_lt.mpr (small_es hn))
  · rw [if_neg (by omega), if_neg (by
      have h1 : ((n : Int) == 1) = false := beq_false_of_ne (by omega)
      rw [h1]
      have h2 : ((⟨#[c]⟩ : Str).length == 0) = false := rfl
      rw [h2]; decide)]
    have e : (⟨(List.replicate ((n : Int)).toNat (#[c] : Array Nat)).foldl (· ++ ·) #[]⟩ : Str) = ⟨(List.replicate n c).toArray⟩ := by
      rw [Int.toNat_natCast, fold_rep]; rfl
    rw [e]
    exact ⟨by
      show ((List.replicate n c).toArray).size ≤ sizeLine
      rw [List.size_toArray, List.length_replicate]
      exact small_es hn, .str _, H, I.tok _, ⟨_, rfl⟩, q⟩
def oMulS : DO2 := fun x y cs P => ∃ (c n : Nat), x = sgn c ∧ y = .int (n : Int) ∧ 2 ≤ n ∧ n ≤ 1000 ∧ P (.str ⟨(List.replicate n c).toArray⟩) cs
theorem adq_mulS : Adq K rMulS oMulS := fun F cs H x y dx dy P Q s rx ry ho pe => by
  obtain ⟨c, n, rfl, rfl, h2, hn, h⟩ := ho
  cases rx
  cases ry
  exact ⟨c, n, rfl, rfl, h2, hn, pe H cs _ _ s (.str _) h⟩
theorem d_mulS (ha : DE X W a wa) (hb : DE X W b wb) : DE X W (.BinOp a .Mult b pos) (wOp oMulS wa wb) := d_op op_mulS adq_mulS ha hb
end
end DL
namespace DL
open PySem
open PySem.Sem (wp)
/-- the pairs' places, one behind the other -/
structure ZlG (xs ys : Array Value) (lo : Addr) (h : Heap) (as : List Addr) : Prop where
  rise : as.Pairwise (· < ·)
  above : ∀ a ∈ as, lo < a
  pairs : ∀ (j : Nat) (a : Addr), as[j]? = some a → ∃ x y, xs[j]? = some x ∧ ys[j]? = some y ∧ IsPair h a x y
theorem ZlG.there {xs ys : Array Value} {lo : Addr} {h : Heap} {as : List Addr} (g : ZlG xs ys lo h as) {a : Addr} (ha : a ∈ as) : a < h.objs.size := by
  obtain ⟨j, hj⟩ := List.mem_iff_getElem?.mp ha
  obtain ⟨_, _, _, _, e⟩ := g.pairs j a hj
  exact Heap.lt_size e
section
open PySem.Spec PyProof.Rows L2
variable {X : Cx} {W : WX} {K : PySem.W.Frag} {F G0 H H' : Hp} {cs : Cs}
theorem Sta.ext (s : Sta K F G0 cs H) (e : Ex H H') : Sta K F G0 cs H' ∧ Ex (pur F cs H) (pur F cs H') := by
  have g : Ex (pur F cs H) (pur F cs H') := fun b u q => by
    obtain ⟨e1, e2, e3⟩ := pur_of q
    rw [pur_at e2 e3]
    exact e b u e1
  refine ⟨⟨s.fr.trans e, s.gr.trans g, s.nd, s.ap, fun a m hm => ?_, s.ft⟩, g⟩
  obtain ⟨o, ho, r⟩ := s.ow a m hm
  exact ⟨o, e _ _ ho, r.mono g⟩
/-- list(zip(xs, ys)) -/
def wLstZ (w : WA) : DL.WE := fun ρ cs P Z => w ρ cs (fun ds cs1 => ∃ xs ys, ds = [.lst xs, .lst ys] ∧ P (.lst (List.zipWith (fun d e => D.tup [d, e]) xs ys)) cs1) Z
theorem r_lstZ {w : WA} {ρ : DL.Env} {P : DP} {Z : XZ} (h : w ρ cs (fun ds cs1 => ∃ xs ys, ds = [.lst xs, .lst ys] ∧ P (.lst (List.zipWith (fun d e => D.tup [d, e]) xs ys)) cs1) Z) : wLstZ w ρ cs P Z := h
end
end DL
namespace DL
open PySem PySem.Spec PyProof.Rows L2
/-- what the ways from a to b and from c to d have in common -/
def ovR (a b c d : Rat) : Rat := if (if a < c then c else a) < (if b < d then b else d) then (if b < d then b else d) - (if a < c then c else a) else 0
def edgeR (b c : Bx) : Rat := if c.l + c.w = b.l ∨ b.l + b.w = c.l then ovR b.t (b.t + b.h) c.t (c.t + c.h) else if c.t + c.h = b.t ∨ b.t + b.h = c.t then ovR b.l (b.l + b.w) c.l (c.l + c.w) else 0
end DL
namespace DL
open PySem PySem.Spec PyProof.Rows L2
def leS (x y : Str) : Bool := decide (x.cps.toList ≤ y.cps.toList)
def sortN (l : List Str) : List Str := l.mergeSort leS
theorem sortN_perm (l : List Str) : (sortN l).Perm l := List.mergeSort_perm l leS
theorem sortN_mem {l : List Str} {x : Str} : x ∈ sortN l ↔ x ∈ l := (sortN_perm l).mem_iff
section
variable {α : Type} [DecidableEq α]
/-- a way from a to b behind a -/
def Wk (N : α → List α) : α → List α → α → Prop
  | a, [], b => a = b
  | a, x :: r, b => x ∈ N a ∧ Wk N x r b
variable {N : α → List α}
theorem Wk.app : ∀ {a b c : α} {r s : List α}, Wk N a r b → Wk N b s c → Wk N a (r ++ s) c
  | _, _, _, [], _, h, k => by cases h; exact k
  | _, _, _, x :: r, s, ⟨h1, h2⟩, k => ⟨h1, h2.app k⟩
theorem Wk.snoc {a b c : α} {r : List α} (h : Wk N a r b) (k : c ∈ N b) : Wk N a (r ++ [c]) c := h.app ⟨k, rfl⟩
theorem Wk.last : ∀ {a b : α} {r : List α}, Wk N a r b → (a :: r).getLast? = some b
  | _, _, [], h => by cases h; rfl
  | a, b, x :: r, ⟨h1, h2⟩ => by rw [List.getLast?_cons_cons]; exact h2.last
/-- the way back -/
theorem Wk.back (sy : ∀ x y, y ∈ N x → x ∈ N y) : ∀ {a b : α} {r : List α}, Wk N a r b → ∃ s, s.length = r.length ∧ Wk N b s a
  | _, _, [], h => ⟨[], rfl, h.symm⟩
  | a, b, x :: r, ⟨h1, h2⟩ => by
    obtain ⟨s, e, w⟩ := h2.back sy
    exact ⟨s ++ [a], by rw [List.length_append, e]; rfl, w.snoc (sy _ _ h1)⟩
/-- k is the least length of a way -/
structure Dst (N : α → List α) (a b : α) (k : Nat) : Prop where
  way : ∃ r, r.length = k ∧ Wk N a r b
  min : ∀ r, Wk N a r b → k ≤ r.length
theorem Dst.uniq {a b : α} {k l : Nat} (h : Dst N a b k) (g : Dst N a b l) : k = l := by
  obtain ⟨r, e1, w1⟩ := h.way
  obtain ⟨s, e2, w2⟩ := g.way
  have := h.min s w2
  have := g.min r w1
  omega
theorem Dst.symm (sy : ∀ x y, y ∈ N x → x ∈ N y) {a b : α} {k : Nat} (h : Dst N a b k) : Dst N b a k := by
  obtain ⟨r, e1, w1⟩ := h.way
  obtain ⟨s, e, w⟩ := w1.back sy
  refine ⟨⟨s, by omega, w⟩, fun t wt => ?_⟩
  obtain ⟨u, eu, wu⟩ := wt.back sy
  have := h.min u wu
  omega
theorem Dst.zero (a : α) : Dst N a a 0 := ⟨⟨[], rfl, rfl⟩, fun _ _ => Nat.zero_le _⟩
/-- the widening: st what has steps, q what waits -/
structure Bfs (N : α → List α) (t : α) (st : List (α × Nat)) (q : List α) : Prop where
  nd : (st.map (·.1)).Nodup
  qn : q.Nodup
  t0 : (t, 0) ∈ st
  way : ∀ v k, (v, k) ∈ st → ∃ r, r.length = k ∧ Wk N v r t
  wait : ∀ v ∈ q, v ∈ st.map (·.1)
  done : ∀ v k, (v, k) ∈ st → v ∉ q → ∀ y ∈ N v, ∃ l, (y, l) ∈ st ∧ l ≤ k + 1
  rise : q.Pairwise fun a b => ∀ k l, (a, k) ∈ st → (b, l) ∈ st → k ≤ l
  top : ∀ a r, q = a :: r → ∀ k, (a, k) ∈ st → ∀ v l, (v, l) ∈ st → l ≤ k + 1
theorem uniq_of_nd {st : List (α × Nat)} (nd : (st.map (·.1)).Nodup) {v : α} {k l : Nat} (h : (v, k) ∈ st) (g : (v, l) ∈ st) : k = l := by
  induction st with
  | nil => cases h
  | cons p st ih =>
    rw [List.map_cons, List.nodup_cons] at nd
    rcases List.mem_cons.mp h with e | e <;> rcases List.mem_cons.mp g with e' | e'
    · rw [← e] at e'; cases e'; rfl
    · exact absurd (List.mem_map.mpr ⟨_, e', by rw [← e]⟩) nd.1
    · exact absurd (List.mem_map.mpr ⟨_, e, by rw [← e']⟩) nd.1
    · exact ih nd.2 e e'
theorem Bfs.start (t : α) : Bfs N t [(t, 0)] [t] := by
  refine ⟨by simp, by simp, by simp, fun v k h => ?_, fun v h => by simpa using h, fun v k h hn => ?_, by simp, fun a r e k h v l g => ?_⟩
  · simp at h; obtain ⟨rfl, rfl⟩ := h; exact ⟨[], rfl, rfl⟩
  · simp at h; obtain ⟨rfl, rfl⟩ := h; simp at hn
  · simp at g h; omega
/-- a turn: the first that waits tells its neighbours that are new -/
theorem Bfs.turn {t a : α} {st : List (α × Nat)} {r : List α} {k : Nat} (h : Bfs N t st (a :: r)) (ha : (a, k) ∈ st) (nn : (N a).Nodup) (sy : ∀ x y, y ∈ N x → x ∈ N y) :
    Bfs N t (st ++ ((N a).filter fun y => decide (y ∉ st.map (·.1))).map fun y => (y, k + 1)) (r ++ (N a).filter fun y => decide (y ∉ st.map (·.1))) := by
  have hnew : ∀ y ∈ (N a).filter (fun y => decide (y ∉ st.map (·.1))), y ∈ N a ∧ y ∉ st.map (·.1) := fun y hy => by
    have := List.mem_filter.mp hy
    exact ⟨this.1, of_decide_eq_true this.2⟩
  generalize hL : (N a).filter (fun y => decide (y ∉ st.map (·.1))) = L at hnew ⊢
  have hall : ∀ y ∈ N a, y ∈ st.map (·.1) ∨ y ∈ L := fun y hy => by
    by_cases e : y ∈ st.map (·.1)
    · exact .inl e
    · exact .inr (by rw [← hL]; exact List.mem_filter.mpr ⟨hy, decide_eq_true e⟩)
  have nL : L.Nodup := by rw [← hL]; exact nn.filter _
  have em : ∀ v l, (v, l) ∈ st ++ L.map (fun y => (y, k + 1)) ↔ (v, l) ∈ st ∨ (v ∈ L ∧ l = k + 1) := fun v l => by
    rw [List.mem_append, List.mem_map]
    constructor
    · rintro (h | ⟨y, hy, e⟩)
      · exact .inl h
      · cases e; exact .inr ⟨hy, rfl⟩
    · rintro (h | ⟨hy, e⟩)
      · exact .inl h
      · exact .inr ⟨v, hy, by rw [e]⟩
  have en : (st ++ L.map (fun y => (y, k + 1))).map (·.1) = st.map (·.1) ++ L := by
    rw [List.map_append, List.map_map]
    congr 1
    rw [show ((fun x : α × Nat => x.1) ∘ fun y => (y, k + 1)) = id from rfl, List.map_id]
  have nr : a ∉ r ∧ r.Nodup := List.nodup_cons.mp h.qn
  have old : ∀ v l, (v, l) ∈ st → v ∉ L := fun v l hv hl => (hnew v hl).2 (List.mem_map.mpr ⟨_, hv, rfl⟩)
  refine ⟨?_, ?_, ?_, ?_, ?_, ?_, ?_, ?_⟩
  · rw [en]
    exact List.nodup_append.mpr ⟨h.nd, nL, fun x hx y hy e => (hnew y hy).2 (e ▸ hx)⟩
  · exact List.nodup_append.mpr ⟨nr.2, nL, fun x hx y hy e => (hnew y hy).2 (e ▸ h.wait x (List.mem_cons_of_mem _ hx))⟩
  · exact (em _ _).mpr (.inl h.t0)
  · intro v l hv
    have hv0 := (em _ _).mp hv
    clear hv
    rcases hv0 with hv | ⟨hv, rfl⟩
    · exact h.way v l hv
    · obtain ⟨s, e, w⟩ := h.way a k ha
      exact ⟨a :: s, by rw [List.length_cons, e], sy _ _ (hnew v hv).1, w⟩
  · intro v hv
    rw [en]
    rcases List.mem_append.mp hv with hv | hv
    · exact List.mem_append.mpr (.inl (h.wait v (List.mem_cons_of_mem _ hv)))
    · exact List.mem_append.mpr (.inr hv)
  · intro v l hv hn y hy
    have hv0 := (em _ _).mp hv
    clear hv
    rcases hv0 with hv | ⟨hv, rfl⟩
    · by_cases e : v = a
      · subst e
        have el : l = k := uniq_of_nd h.nd hv ha
        subst el
        rcases hall y hy with z | z
        · obtain ⟨⟨y', m⟩, hm, ey⟩ := List.mem_map.mp z
          have ey' : y' = y := ey
          subst ey'
          exact ⟨m, (em _ _).mpr (.inl hm), h.top v r rfl l hv y' m hm⟩
        · exact ⟨l + 1, (em _ _).mpr (.inr ⟨z, rfl⟩), Nat.le_refl _⟩
      · have hn' : v ∉ a :: r := fun z => by
          rcases List.mem_cons.mp z with z | z
          · exact e z
          · exact hn (List.mem_append.mpr (.inl z))
        obtain ⟨m, hm, hl⟩ := h.done v l hv hn' y hy
        exact ⟨m, (em _ _).mpr (.inl hm), hl⟩
    · exact absurd (List.mem_append.mpr (.inr hv)) hn
  · have pr := List.pairwise_cons.mp h.rise
    refine List.pairwise_append.mpr ⟨?_, ?_, ?_⟩
    · refine pr.2.imp_of_mem fun {x y} hx hy hxy m n hm hn => ?_
      have hm0 := (em _ _).mp hm
      clear hm
      rcases hm0 with hm | ⟨hm, rfl⟩
      · have hn0 := (em _ _).mp hn
        clear hn
        rcases hn0 with hn | ⟨hn, rfl⟩
        · exact hxy m n hm hn
        · exact h.top a r rfl k ha x m hm
      · exact absurd (h.wait x (List.mem_cons_of_mem _ hx)) (hnew x hm).2
    · refine nL.imp_of_mem fun {x y} hx hy _ m n hm hn => ?_
      have hm0 := (em _ _).mp hm
      clear hm
      rcases hm0 with hm | ⟨hm, rfl⟩
      · exact absurd hx (old x m hm)
      · have hn0 := (em _ _).mp hn
        clear hn
        rcases hn0 with hn | ⟨hn, rfl⟩
        · exact absurd hy (old y n hn)
        · exact Nat.le_refl _
    · intro x hx y hy m n hm hn
      have hn0 := (em _ _).mp hn
      clear hn
      rcases hn0 with hn | ⟨_, rfl⟩
      · exact absurd hy (old y n hn)
      · have hm0 := (em _ _).mp hm
        clear hm
        rcases hm0 with hm | ⟨hm, rfl⟩
        · exact h.top a r rfl k ha x m hm
        · exact Nat.le_refl _
  · intro x s e m hm v l hv
    have hkm : k ≤ m := by
      have hm0 := (em _ _).mp hm
      clear hm
      rcases hm0 with hm | ⟨hm, rfl⟩
      · have hx : x ∈ r := by
          have : x ∈ r ++ L := by rw [e]; exact List.mem_cons_self ..
          rcases List.mem_append.mp this with z | z
          · exact z
          · exact absurd z (old x m hm)
        exact (List.pairwise_cons.mp h.rise).1 x hx k m ha hm
      · omega
    have hv0 := (em _ _).mp hv
    clear hv
    rcases hv0 with hv | ⟨hv, rfl⟩
    · have := h.top a r rfl k ha v l hv
      omega
    · omega
section
variable (le : α → α → Bool)
def leL : List α → List α → Bool
  | [], _ => true
  | _ :: _, [] => false
  | x :: xs, y :: ys => if x = y then leL xs ys else le x y
end
structure Ord (le : α → α → Bool) : Prop where
  rf : ∀ x, le x x = true
  tr : ∀ x y z, le x y = true → le y z = true → le x z = true
  an : ∀ x y, le x y = true → le y x = true → x = y
  tt : ∀ x y, (le x y || le y x) = true
variable {le : α → α → Bool}
theorem leL_anti (o : Ord le) : ∀ {l m : List α}, leL le l m = true → leL le m l = true → l = m
  | [], [], _, _ => rfl
  | [], _ :: _, _, h => by cases h
  | _ :: _, [], h, _ => by cases h
  | x :: l, y :: m, h, g => by
    unfold leL at h g
    by_cases e : x = y
    · subst e
      rw [if_pos rfl] at h g
      rw [leL_anti o h g]
    · rw [if_neg e] at h
      rw [if_neg (Ne.symm e)] at g
      exact absurd (o.an _ _ h g) e
/-- the first of the shortest ways -/
structure FstW (le : α → α → Bool) (N : α → List α) (a b : α) (r : List α) : Prop where
  w : Wk N a r b
  mn : ∀ s, Wk N a s b → r.length ≤ s.length
  fs : ∀ s, Wk N a s b → s.length = r.length → leL le r s = true
theorem FstW.uniq (o : Ord le) {a b : α} {r s : List α} (h : FstW le N a b r) (g : FstW le N a b s) : r = s := by
  have e : r.length = s.length := Nat.le_antisymm (h.mn s g.w) (g.mn r h.w)
  exact leL_anti o (h.fs s g.w e.symm) (g.fs r h.w e)
theorem FstW.nil (a : α) : FstW le N a a [] := ⟨rfl, fun _ _ => Nat.zero_le _, fun s _ _ => by unfold leL; rfl⟩
/-- a first way meets nothing twice -/
theorem Wk.nd_of {b : α} : ∀ {a : α} {r : List α}, Wk N a r b → (∀ s, Wk N a s b → r.length ≤ s.length) → (a :: r).Nodup := by
    intro a r
    induction r generalizing a with
    | nil => intro _ _; simp
    | cons x r ih =>
      intro w m
      have hm : ∀ s, Wk N x s b → r.length ≤ s.length := fun s ws => by
        have := m (x :: s) ⟨w.1, ws⟩
        simpa using this
      refine List.nodup_cons.mpr ⟨fun ha => ?_, ih w.2 hm⟩
      obtain ⟨p, q, e⟩ := List.append_of_mem ha
      have tail : ∀ {x : α} {p r q : List α}, x :: r = p ++ a :: q → Wk N x r b → Wk N a q b := by
        intro x p
        induction p generalizing x with
        | nil => intro r q e w3; injection e with e1 e2; rw [← e1, ← e2]; exact w3
        | cons y p ihp =>
          intro r q e w3
          injection e with e1 e2
          rw [e2] at w3
          cases p with
          | nil => exact w3.2
          | cons z p => exact ihp rfl w3.2
      have wq := tail e w.2
      have hq := m q wq
      have : (x :: r).length = (p ++ a :: q).length := by rw [e]
      simp at this hq
      omega
theorem FstW.nd {a b : α} {r : List α} (h : FstW le N a b r) : (a :: r).Nodup := Wk.nd_of h.w h.mn
theorem Wk.mem : ∀ {a b : α} {r : List α}, Wk N a r b → ∀ v ∈ r, ∃ u, v ∈ N u
  | _, _, _ :: _, ⟨h1, h2⟩, v, hv => by
    rcases List.mem_cons.mp hv with e | e
    · exact ⟨_, e ▸ h1⟩
    · exact h2.mem v e
end
abbrev NB := List (Str × Bx)
def bxOf (nb : NB) (x : Str) : Bx := ((nb.find? fun q => decide (q.1 = x)).map (·.2)).getD ⟨0, 0, 0, 0⟩
def namesB (nb : NB) : List Str := sortN (nb.map (·.1))
theorem namesB_mem {nb : NB} {x : Str} : x ∈ namesB nb ↔ x ∈ nb.map (·.1) := sortN_mem
def nearAll (nb : NB) (x : Str) : List (Str × Rat) := ((namesB nb).filter fun y => decide (y ≠ x)).map fun y => (y, edgeR (bxOf nb x) (bxOf nb y))
def nearB (nb : NB) (x : Str) : List (Str × Rat) := (nearAll nb x).filter fun q => decide (0 < q.2)
def nearN (nb : NB) (x : Str) : List Str := (nearB nb x).map (·.1)
theorem nearN_eq (nb : NB) (x : Str) : nearN nb x = (namesB nb).filter fun y => decide (y ≠ x) && decide (0 < edgeR (bxOf nb x) (bxOf nb y)) := by
  unfold nearN nearB nearAll
  generalize namesB nb = l
  induction l with
  | nil => rfl
  | cons y l ih =>
    by_cases e : y = x
    · rw [List.filter_cons_of_neg (by simp [e]), List.filter_cons_of_neg (by simp [e])]; exact ih
    · by_cases e2 : 0 < edgeR (bxOf nb x) (bxOf nb y)
      · rw [List.filter_cons_of_pos (by simp [e]), List.filter_cons_of_pos (by simp [e, e2]), List.map_cons, List.filter_cons_of_pos (by simp [e2]), List.map_cons, ih]
      · rw [List.filter_cons_of_pos (by simp [e]), List.filter_cons_of_neg (by simp [e, e2]), List.map_cons, List.filter_cons_of_neg (by simp [e2]), ih]
theorem nearN_mem {nb : NB} {x y : Str} : y ∈ nearN nb x ↔ y ∈ nb.map (·.1) ∧ y ≠ x ∧ 0 < edgeR (bxOf nb x) (bxOf nb y) := by
  rw [nearN_eq, List.mem_filter, namesB_mem, Bool.and_eq_true, decide_eq_true_eq, decide_eq_true_eq]
theorem nearN_sub {nb : NB} {x y : Str} (h : y ∈ nearN nb x) : y ∈ nb.map (·.1) := (nearN_mem.mp h).1
/-- the neighbours of a name that stands -/
def nbN (nb : NB) (x : Str) : List Str := if x ∈ nb.map (·.1) then nearN nb x else []
theorem nbN_mem {nb : NB} {x y : Str} (h : y ∈ nbN nb x) : x ∈ nb.map (·.1) ∧ y ∈ nearN nb x := by
  unfold nbN at h
  split at h
  · exact ⟨by assumption, h⟩
  · cases h
end DL
namespace DL
open PySem PySem.Spec PyProof.Rows L2
section
variable {X : Cx} {W : WX} {K : PySem.W.Frag} {σ : L2.St} {H : Hp}
variable {i : Nat} {y : Str} {py pos spos : Pos} {kx vx tg iter : Expr} {ifs : List Expr} {scope : Scope} {own : List (Str × Nat)} {wi : WI} {g : TG} {gd : WG} {wt : WT} {wk wv : DL.WE}
/-- behind a statement the slot's dict is data -/
def sLockA (i : Nat) (u : WS) : WS := fun f ρ cs => u { f with nx := fun ρ' cs' => ∃ p kvs, ρ'[i]? = some (some (.opq (.ref p))) ∧ look p cs' = some (.dic kvs) ∧ f.nx (ρ'.set i (some (.dic kvs))) (del p cs') } ρ cs
theorem q_lockA {i : Nat} {ρ : DL.Env} {cs : Cs} {u : WS} {nx bk ct : DL.Env → Cs → Prop} {rt : D → Cs → Prop} {ex : Exn → DL.Env → Cs → Prop} (h : u ⟨fun ρ' cs' => ∃ p kvs, ρ'[i]? = some (some (.opq (.ref p))) ∧ look p cs' = some (.dic kvs) ∧ nx (ρ'.set i (some (.dic kvs))) (del p cs'), rt, ex, bk, ct⟩ ρ cs) : sLockA i u ⟨nx, rt, ex, bk, ct⟩ ρ cs := h
end
end DL
namespace DL
open PySem PySem.Spec PyProof.Rows L2
structure Grid where
  m : Nat
  n : Nat → Nat
  Y : Nat → Rat
  X : Nat → Nat → Rat
  x0 : Rat
  x1 : Rat
structure Grid.Ok (G : Grid) : Prop where
  y : ∀ i, i < G.m → G.Y i < G.Y (i + 1)
  x : ∀ i j, i < G.m → j < G.n i → G.X i j < G.X i (j + 1)
  b : ∀ i, i < G.m → G.X i 0 = G.x0
  e : ∀ i, i < G.m → G.X i (G.n i) = G.x1
def Bx.tr (b : Bx) : Bx := ⟨b.t, b.l, b.h, b.w⟩
def Dn (N : Nat) (r : Rat) : Prop := ∃ z : Int, r * ((N : Int) : Rat) = (z : Rat)
theorem Dn.add {N : Nat} {r s : Rat} (a : Dn N r) (b : Dn N s) : Dn N (r + s) := by
  obtain ⟨z, hz⟩ := a
  obtain ⟨y, hy⟩ := b
  exact ⟨z + y, by rw [Rat.add_mul, hz, hy, Rat.intCast_add]⟩
theorem Dn.sub {N : Nat} {r s : Rat} (a : Dn N r) (b : Dn N s) : Dn N (r - s) := by
  obtain ⟨z, hz⟩ := a
  obtain ⟨y, hy⟩ := b
  refine ⟨z - y, ?_⟩
  rw [Rat.intCast_sub, ← hz, ← hy]; grind
theorem Dn.zero (N : Nat) : Dn N 0 := ⟨0, by rw [Rat.zero_mul]; rfl⟩
theorem Dn.sum {N : Nat} : ∀ {l : List Rat}, (∀ r ∈ l, Dn N r) → Dn N l.sum
  | [], _ => Dn.zero N
  | r :: l, h => by
    rw [List.sum_cons]
    exact (h r (List.mem_cons_self ..)).add (Dn.sum fun s hs => h s (List.mem_cons_of_mem _ hs))
theorem Dn.den (x : Rat) : Dn x.den x := by
  have e := Rat.num_divInt_den x
  rw [Rat.divInt_eq_div] at e
  have hd : (((x.den : Int)) : Rat) ≠ 0 := fun q => den_ne x (Rat.intCast_eq_zero_iff.mp q)
  have e2 := Rat.div_mul_cancel (a := (x.num : Rat)) hd
  rw [e] at e2
  exact ⟨x.num, e2⟩
theorem Dn.sz {N n : Nat} {r : Rat} (h : Dn N r) (hN : 0 < N) (h1 : N < 2 ^ n) {k : Nat} (h2 : 0 ≤ r) (h3 : r < ((2 ^ k : Nat) : Int)) : Sz (n + k) r := by
  obtain ⟨z, hz⟩ := h
  have hN' : (((N : Int)) : Rat) ≠ 0 := fun q => by have := Rat.intCast_eq_zero_iff.mp q; omega
  have hr : r = Rat.divInt z N := by
    rw [Rat.divInt_eq_div, ← hz, Rat.mul_div_cancel hN']
  have z0 : 0 ≤ z := by
    have : (0 : Rat) ≤ (z : Rat) := by rw [← hz]; exact Rat.mul_nonneg h2 (Rat.intCast_nonneg.mpr (by omega))
    exact Rat.intCast_nonneg.mp this
  have z1 : z < (2 ^ k : Nat) * N := by
    have hp : (0 : Rat) < ((N : Int) : Rat) := Rat.intCast_pos.mpr (by omega)
    have := Rat.mul_lt_mul_of_pos_right h3 hp
    rw [hz, ← Rat.intCast_mul] at this
    exact Rat.intCast_lt_intCast.mp this
  rw [hr]
  refine Sz.divInt (n := n + k) (by omega) ?_ ?_ (Nat.le_refl _)
  · have h4 : (2 ^ k : Nat) * N < 2 ^ (n + k) := by
      rw [Nat.pow_add, Nat.mul_comm (2 ^ n)]
      exact Nat.mul_lt_mul_of_pos_left h1 (Nat.two_pow_pos k)
    have h5 : z < ((2 ^ k * N : Nat) : Int) := by rw [Int.natCast_mul]; exact z1
    omega
  · have : 2 ^ n ≤ 2 ^ (n + k) := Nat.pow_le_pow_right (by decide) (by omega)
    omega
end DL
namespace DL
open PySem PySem.Spec PyProof.Rows L2
section
variable {X : Cx} {W : WX} {K : PySem.W.Frag}
def sSetSl (wv wo : DL.WE) (wl wh : WO) : WS := fun f ρ cs => wv ρ cs (fun y cs1 => wo ρ cs1 (fun x cs2 => wl ρ cs2 (fun i cs3 => wh ρ cs3 (fun j cs4 => ∃ (p q : Addr) (xs ys : List D) (a c : Int), x = .opq (.ref p) ∧ y = .opq (.ref q) ∧ i = some a ∧ j = some c ∧ look p cs4 = some (.lst xs) ∧ look q cs4 = some (.lst ys) ∧ p ≠ q ∧
  0 ≤ a ∧ a ≤ c ∧ c ≤ xs.length ∧ xs.length + ys.length ≤ 100000 ∧ f.nx ρ (put p (.lst (xs.take a.toNat ++ ys ++ xs.drop c.toNat)) cs4)) (fun x cs1 => f.ex x ρ cs1)) (fun x cs1 => f.ex x ρ cs1)) (fun x cs1 => f.ex x ρ cs1)) (fun x cs1 => f.ex x ρ cs1)
/-- [..] * n, a list that will change -/
def wLRepM (w : WA) (wb : DL.WE) : DL.WE := fun ρ cs P Z => w ρ cs (fun ds cs1 => wb ρ cs1 (fun y cs2 => ∃ k : Nat, y = .int (k : Int) ∧ ds.length * k ≤ 100000 ∧ k ≤ 100000 ∧ ∀ q, q ∉ adr cs2 → P (.opq (.ref q)) ((q, .lst (List.replicate k ds).flatten) :: cs2)) Z) Z
end
section
variable {ρ : DL.Env} {cs : Cs} {P : DP} {Z : XZ} {w : WA} {wb wv wo : DL.WE} {wl wh : WO} {nx bk ct : DL.Env → Cs → Prop} {rt : D → Cs → Prop} {ex : Exn → DL.Env → Cs → Prop}
theorem q_setSl (h : wv ρ cs (fun y cs1 => wo ρ cs1 (fun x cs2 => wl ρ cs2 (fun i cs3 => wh ρ cs3 (fun j cs4 => ∃ (p q : Addr) (xs ys : List D) (a c : Int), x = .opq (.ref p) ∧ y = .opq (.ref q) ∧ i = some a ∧ j = some c ∧ look p cs4 = some (.lst xs) ∧ look q cs4 = some (.lst ys) ∧ p ≠ q ∧
  0 ≤ a ∧ a ≤ c ∧ c ≤ xs.length ∧ xs.length + ys.length ≤ 100000 ∧ nx ρ (put p (.lst (xs.take a.toNat ++ ys ++ xs.drop c.toNat)) cs4)) (fun x cs1 => ex x ρ cs1)) (fun x cs1 => ex x ρ cs1)) (fun x cs1 => ex x ρ cs1)) (fun x cs1 => ex x ρ cs1)) : sSetSl wv wo wl wh ⟨nx, rt, ex, bk, ct⟩ ρ cs := h
theorem r_lrepM (h : w ρ cs (fun ds cs1 => wb ρ cs1 (fun y cs2 => ∃ k : Nat, y = .int (k : Int) ∧ ds.length * k ≤ 100000 ∧ k ≤ 100000 ∧ ∀ q, q ∉ adr cs2 → P (.opq (.ref q)) ((q, .lst (List.replicate k ds).flatten) :: cs2)) Z) Z) : wLRepM w wb ρ cs P Z := h
end
def rowF (f : Nat → Nat → Str) (C r : Nat) : List Str := (List.range C).map (f r)
/-- the rows at ps, told at q; what stood ahead (cs) stands -/
structure RowsAt (cs : Cs) (f : Nat → Nat → Str) (R C : Nat) (q : Addr) (ps : List Addr) (cs' : Cs) : Prop where
  out : look q cs' = some (.lst (ps.map fun p => .opq (.ref p)))
  len : ps.length = R
  row : ∀ (r : Nat) (p : Addr), ps[r]? = some p → look p cs' = some (.lst ((rowF f C r).map D.str))
  nd : ps.Nodup
  qn : q ∉ ps
  fr : ∀ a m, look a cs = some m → look a cs' = some m ∧ a ≠ q ∧ a ∉ ps
theorem RowsAt.put {cs cs' : Cs} {f : Nat → Nat → Str} {R C r : Nat} {q p : Addr} {ps : List Addr} (h : RowsAt cs f R C q ps cs') (hp : ps[r]? = some p) {g : Nat → Nat → Str} (hg : ∀ j, j ≠ r → rowF g C j = rowF f C j) : RowsAt cs g R C q ps (put p (.lst ((rowF g C r).map D.str)) cs') := by
  have hm := List.mem_of_getElem? hp
  have hq : q ≠ p := fun e => h.qn (e ▸ hm)
  refine ⟨by rw [look_put_ne hq]; exact h.out, h.len, fun j p' hj => ?_, h.nd, h.qn, fun a m ha => ?_⟩
  · by_cases e : p' = p
    · subst e
      have ej : j = r := by
        obtain ⟨hj1, hj2⟩ := List.getElem?_eq_some_iff.mp hj
        obtain ⟨hr1, hr2⟩ := List.getElem?_eq_some_iff.mp hp
        exact (List.getElem_inj h.nd).mp (hj2.trans hr2.symm)
      subst ej
      exact look_put (h.row j p' hj)
    · rw [look_put_ne e, hg j (fun ej => e (by subst ej; rw [hj] at hp; exact Option.some.inj hp))]
      exact h.row j p' hj
  · obtain ⟨a1, a2, a3⟩ := h.fr a m ha
    have hap : a ≠ p := fun e => a3 (by rw [e]; exact hm)
    exact ⟨by rw [look_put_ne hap]; exact a1, a2, a3⟩
theorem RowsAt.del {cs cs' : Cs} {f : Nat → Nat → Str} {R C : Nat} {q z : Addr} {ps : List Addr} {m : MO} (h : RowsAt cs f R C q ps ((z, m) :: cs')) (hz : z ∉ adr cs') (z1 : z ≠ q) (z2 : z ∉ ps) (z3 : look z cs = none) : RowsAt cs f R C q ps cs' := by
  have ne : ∀ {a : Addr}, a ≠ z → look a ((z, m) :: cs') = look a cs' := fun {a} e => look_cons_ne e
  refine ⟨by rw [← ne (Ne.symm z1)]; exact h.out, h.len, fun r p hp => ?_, h.nd, h.qn, fun a u ha => ?_⟩
  · rw [← ne (fun e => z2 (e ▸ List.mem_of_getElem? hp))]; exact h.row r p hp
  · obtain ⟨a1, a2, a3⟩ := h.fr a u ha
    have : a ≠ z := fun e => by rw [e, z3] at ha; cases ha
    rw [ne this] at a1
    exact ⟨a1, a2, a3⟩
end DL
namespace DL
open PySem PySem.Spec PyProof.Rows L2
end DL
namespace DL
open PySem PySem.Spec PyProof.Rows L2
section
variable {X : Cx} {W : WX} {K : PySem.W.Frag} {a b : Expr} {wa wb : DL.WE} {pos : Pos}
def oListDD : DOn := fun ds cs P => ∃ (d : D) (kvs : List (Key × D)), ds = [d] ∧ ddAt d cs = some (.inl kvs) ∧ P (.lst (kvs.map fun p => kD p.1)) cs
def oListDM : DOn := fun ds cs P => ∃ (d : D) (kvs : List (Key × D)), ds = [d] ∧ ddAt d cs = some (.inl kvs) ∧ ∀ q, q ∉ adr cs → P (.opq (.ref q)) ((q, .lst (kvs.map fun p => kD p.1)) :: cs)
theorem r_listDD {kvs : List (Key × D)} {cs : Cs} {P : DP} (h : P (.lst (kvs.map fun p => kD p.1)) cs) : oListDD [.dic kvs] cs P := ⟨_, kvs, rfl, rfl, h⟩
theorem r_listDM {kvs : List (Key × D)} {cs : Cs} {P : DP} (h : ∀ q, q ∉ adr cs → P (.opq (.ref q)) ((q, .lst (kvs.map fun p => kD p.1)) :: cs)) : oListDM [.dic kvs] cs P := ⟨_, kvs, rfl, rfl, h⟩
def oDictDD : DOn := fun ds cs P => ∃ (d : D) (kvs : List (Key × D)), ds = [d] ∧ ddAt d cs = some (.inl kvs) ∧ ∀ q, q ∉ adr cs → P (.opq (.ref q)) ((q, .dic kvs) :: cs)
theorem r_dictDD {kvs : List (Key × D)} {cs : Cs} {P : DP} (h : ∀ q, q ∉ adr cs → P (.opq (.ref q)) ((q, .dic kvs) :: cs)) : oDictDD [.dic kvs] cs P := ⟨_, kvs, rfl, rfl, h⟩
end
end DL
namespace DL
open PySem PySem.Spec PyProof.Rows L2
section
variable {K : PySem.W.Frag} {F G0 H : Hp} {cs : Cs}
theorem adr_sub {g : Addr × MO → Bool} {a : Addr} (h : a ∈ adr (cs.filter g)) : a ∈ adr cs := by
  obtain ⟨q, hq, rfl⟩ := List.mem_map.mp h
  exact List.mem_map.mpr ⟨q, (List.mem_filter.mp hq).1, rfl⟩
theorem Sta.sub (s : Sta K F G0 cs H) (g : Addr × MO → Bool) : Sta K F G0 (cs.filter g) H ∧ Ex (pur F cs H) (pur F (cs.filter g) H) := by
  have e : Ex (pur F cs H) (pur F (cs.filter g) H) := fun b u hb => by
    obtain ⟨e1, e2, e3⟩ := pur_of hb
    rw [pur_at e2 fun z => e3 (adr_sub z)]; exact e1
  refine ⟨⟨s.fr, s.gr.trans e, List.Nodup.sublist ((List.filter_sublist).map _) s.nd, fun a h => s.ap a (adr_sub h), fun a m h => ?_, s.ft⟩, e⟩
  obtain ⟨u, hu, r⟩ := s.ow a m (List.mem_filter.mp h).1
  exact ⟨u, hu, r.mono e⟩
/-- two things at one place -/
theorem nd_at : ∀ {cs : Cs} {a : Addr} {m n : MO}, (adr cs).Nodup → (a, m) ∈ cs → (a, n) ∈ cs → m = n
  | q :: r, a, m, n, nd, h1, h2 => by
    obtain ⟨n1, n2⟩ := List.nodup_cons.mp (show (q.1 :: adr r).Nodup from nd)
    rcases List.mem_cons.mp h1 with e1 | e1 <;> rcases List.mem_cons.mp h2 with e2 | e2
    · rw [← e1] at e2; cases e2; rfl
    · exact absurd (List.mem_map.mpr ⟨_, e2, by rw [← e1]⟩) n1
    · exact absurd (List.mem_map.mpr ⟨_, e1, by rw [← e2]⟩) n1
    · exact nd_at n2 e1 e2
theorem out_of {g : Addr × MO → Bool} (nd : (adr cs).Nodup) {p : Addr} {m : MO} (h : (p, m) ∈ cs) (hg : g (p, m) = false) : p ∉ adr (cs.filter g) := fun z => by
  obtain ⟨⟨a, n⟩, hq, e⟩ := List.mem_map.mp z
  have e' : a = p := e
  subst e'
  obtain ⟨h1, h2⟩ := List.mem_filter.mp hq
  rw [nd_at nd h1 h, hg] at h2
  cases h2
mutual
theorem Lend.frz {g : Addr × MO → Bool} (s : Sta K F G0 cs H) : ∀ {d d' : D} {v : V}, Lend (cs.filter fun q => !g q) d d' → Rep K (pur F cs H) v d → Rep K (pur F (cs.filter g) H) v d'
  | _, _, _, .same d, r => r.mono (s.sub g).2
  | _, _, _, .at_ (p := p) (xs := xs) hl l, r => by
    cases r
    have hm := List.mem_filter.mp (look_mem hl)
    obtain ⟨o, e, m⟩ := s.ow p _ hm.1
    have hg : g (p, MO.lst xs) = false := by simpa using hm.2
    have hp : p ∈ adr cs := List.mem_map.mpr ⟨_, hm.1, rfl⟩
    cases o <;> try exact m.elim
    exact .lst (SqL.of (by rw [pur_at (s.ap p hp) (out_of s.nd hm.1 hg)]; exact e)) (LendL.frz s l m)
  | _, _, _, .tup l, r => by
    cases r with
    | tup h r => exact .tup (ex_t (s.sub g).2 h) (LendL.frz s l r)
  | _, _, _, .lst l, r => by
    cases r with
    | lst h r => exact .lst (ex_l (s.sub g).2 h) (LendL.frz s l r)
theorem LendL.frz {g : Addr × MO → Bool} (s : Sta K F G0 cs H) : ∀ {d d' : List D} {v : List V}, LendL (cs.filter fun q => !g q) d d' → RepL K (pur F cs H) v d → RepL K (pur F (cs.filter g) H) v d'
  | _, _, _, .nil, r => by cases r; exact .nil
  | _, _, _, .cons l ls, r => by
    cases r with
    | cons r rs => exact .cons (Lend.frz s l r) (LendL.frz s ls rs)
end
end
section
variable {X : Cx} {W : WX} {K : PySem.W.Frag} {e : Expr} {we : DL.WE}
/-- a value with all that may change in it is from now on data -/
def wFrzD (we : DL.WE) : DL.WE := fun ρ cs P Z => we ρ cs (fun d cs1 => ∃ (g : Addr × MO → Bool) (d' : D), Lend (cs1.filter fun q => !g q) d d' ∧ P d' (cs1.filter g)) Z
theorem r_frzD {ρ : DL.Env} {cs : Cs} {P : DP} {Z : XZ} (h : we ρ cs (fun d cs1 => ∃ (g : Addr × MO → Bool) (d' : D), Lend (cs1.filter fun q => !g q) d d' ∧ P d' (cs1.filter g)) Z) : wFrzD we ρ cs P Z := h
end
section
variable {X : Cx} {W : WX} {K : PySem.W.Frag} {e : Expr} {w : WA} {pos : Pos}
def enumD (xs : List D) : List D := xs.mapIdx fun i x => D.tup [.int (i : Int), x]
def iEn (w : WA) : WI := fun ρ cs P Z => w ρ cs (fun ds cs1 => ∃ xs, ds = [.lst xs] ∧ P (enumD xs) cs1) Z
theorem r_enum {ρ : DL.Env} {cs : Cs} {Z : XZ} {R : List D → Cs → Prop} (h : w ρ cs (fun ds cs1 => ∃ xs, ds = [.lst xs] ∧ R (enumD xs) cs1) Z) : iEn w ρ cs R Z := h
end
end DL
namespace DL
open PySem PySem.Spec PyProof.Rows L2 LamX
/-- the exceptions of these names are caught, their field fl is read -/
def LostOk (K : PySem.W.Frag) (cl : Value) (fl : Str) (L : List Str) : Prop := ∀ n ∈ L, CaughtBy K (.ref (He.ga K n)) [cl] ∧ XfC K (He.ga K n) ∧ PySem.W.findIn K (.ref (He.ga K n)) fl = some none
def tLostD (fl : Str) (L : List Str) (we : DL.WE) : DL.WE := fun ρ cs P Z => we ρ cs (fun _ cs1 => P .non cs1) (fun x cs1 => x.cls ∈ L ∧ ∃ y, x.fs.lookup fl = some y ∧ P y cs1)
theorem lost_ok {K : PySem.W.Frag} {c fl : Str} {L : List Str} (h : (L.all fun n => caughtB K n [c] && (xfB K (He.ga K n) && noAt K (He.ga K n) fl)) = true) : LostOk K (.ref (He.ga K c)) fl L := fun n hn => by
  obtain ⟨h1, h2⟩ := Bool.and_eq_true_iff.mp (List.all_eq_true.mp h n hn)
  obtain ⟨h3, h4⟩ := Bool.and_eq_true_iff.mp h2
  exact ⟨caughtB_ok h1, xfB_ok h3, of_decide_eq_true h4⟩
theorem r_lost {fl : Str} {L : List Str} {we : DL.WE} {ρ : DL.Env} {cs : Cs} {P : DP} {Z : XZ} (h : we ρ cs (fun _ cs1 => P .non cs1) (fun x cs1 => x.cls ∈ L ∧ ∃ y, x.fs.lookup fl = some y ∧ P y cs1)) : tLostD fl L we ρ cs P Z := h
end DL
namespace DL
open PySem PySem.Spec PyProof.Rows L2
def keyT (e : Int × Value) : Str := match e.2 with | .str k _ => k | _ => Str.empty
def GoodT (w : World) (e : Int × Value) : Prop := ∃ k u, e.2 = Value.str k u ∧ e.1 = hashStr w k
/-- the set of texts at a: l its members in the order of its table -/
def SetX (w : World) (h : Heap) (a : Addr) (l : List Str) : Prop :=
  ∃ o es ep t, h.get? a = some o ∧ o.ExactSet ∧ o.data = .set es ep t ∧ (∀ e ∈ es.toList, GoodT w e) ∧ es.toList.map keyT = l ∧ l.Nodup ∧
    es.size < scanBound ∧ t.fits es.size = true ∧ Ris t.place.toList ∧ (w.params.followText "set-order" = true ∨ t.led = true)
section
variable {P : Program} {w : World} {h h' : Heap} {a : Addr} {l : List Str}
theorem SetX.at (R : SetX w h a l) (k : ∀ o, h.get? a = some o → h'.get? a = some o) : SetX w h' a l := by
  obtain ⟨o, es, ep, t, ho, r⟩ := R
  exact ⟨o, es, ep, t, k o ho, r⟩
end
/-- l holds what stands in ks -/
structure GotX (ks l : List Str) : Prop where
  mem : ∀ x, x ∈ l ↔ x ∈ ks
  nd : l.Nodup
theorem GotX.len {ks l : List Str} (g : GotX ks l) : l.length ≤ ks.length := nodup_le g.nd fun x hx => (g.mem x).mp hx
theorem GotX.same {ks l : List Str} {x : Str} (g : GotX ks l) (h : x ∈ l) : GotX (ks ++ [x]) l := ⟨fun y => by
  rw [List.mem_append, List.mem_singleton, ← g.mem y]
  exact ⟨.inl, fun z => z.elim id fun e => e ▸ h⟩, g.nd⟩
theorem GotX.more {ks l l' : List Str} {x : Str} (g : GotX ks l) (h : x ∉ l) (p : l'.Perm (x :: l)) : GotX (ks ++ [x]) l' := ⟨fun y => by
  rw [p.mem_iff, List.mem_cons, List.mem_append, List.mem_singleton, g.mem y]
  exact Or.comm, p.nodup_iff.mpr (List.nodup_cons.mpr ⟨h, g.nd⟩)⟩
section
variable {X : Cx} {W : WX} {K : PySem.W.Frag} {e : Expr} {we : DL.WE} {pos : Pos}
def wLenSetX (we : DL.WE) : DL.WE := fun ρ cs P Z => we ρ cs (fun d cs1 => ∃ ks : List Str, lstOf cs1 d = some (ks.map D.str) ∧ ks.length < 4000 ∧ ∀ l : List Str, GotX ks l → P (.int (l.length : Int)) cs1) Z
def wSortSetX (we : DL.WE) : DL.WE := fun ρ cs P Z => we ρ cs (fun d cs1 => ∃ ks : List Str, lstOf cs1 d = some (ks.map D.str) ∧ ks.length < 4000 ∧ ∀ l : List Str, GotX ks l → l.length < 64 ∧ P (.lst ((sortN l).map D.str)) cs1) Z
end
section
variable {ρ : DL.Env} {cs : Cs} {P : DP} {Z : XZ} {we : DL.WE}
theorem r_lenSetX (h : we ρ cs (fun d cs1 => ∃ ks : List Str, lstOf cs1 d = some (ks.map D.str) ∧ ks.length < 4000 ∧ ∀ l : List Str, GotX ks l → P (.int (l.length : Int)) cs1) Z) : wLenSetX we ρ cs P Z := h
theorem r_sortSetX (h : we ρ cs (fun d cs1 => ∃ ks : List Str, lstOf cs1 d = some (ks.map D.str) ∧ ks.length < 4000 ∧ ∀ l : List Str, GotX ks l → l.length < 64 ∧ P (.lst ((sortN l).map D.str)) cs1) Z) : wSortSetX we ρ cs P Z := h
end
theorem Wk.at_ {N : Str → List Str} : ∀ {a b : Str} {r : List Str}, Wk N a r b → ∀ (i : Nat) (u v : Str), (a :: r)[i]? = some u → (a :: r)[i + 1]? = some v → v ∈ N u
  | a, b, [], _, i, u, v, _, h2 => by rw [List.getElem?_cons_succ] at h2; simp at h2
  | a, b, x :: r, h, 0, u, v, h1, h2 => by
    have e1 : a = u := Option.some.inj h1
    have e2 : x = v := Option.some.inj h2
    rw [← e1, ← e2]; exact h.1
  | a, b, x :: r, h, i + 1, u, v, h1, h2 => Wk.at_ h.2 i u v h1 h2
end DL
namespace DL
open PySem PySem.Spec PyProof.Rows L2
section
variable {N : Str → List Str}
theorem Dst.of {a b : Str} : ∀ (n : Nat) {s : List Str}, s.length = n → Wk N a s b → ∃ j, j ≤ n ∧ Dst N a b j := by
  intro n
  induction n using Nat.strongRecOn with
  | _ n ih =>
    intro s e w
    by_cases h : ∃ t : List Str, t.length < n ∧ Wk N a t b
    · obtain ⟨t, ht, wt⟩ := h
      obtain ⟨j, hj, d⟩ := ih t.length ht rfl wt
      exact ⟨j, by omega, d⟩
    · refine ⟨n, Nat.le_refl _, ⟨s, e, w⟩, fun t wt => ?_⟩
      rcases Nat.lt_or_ge t.length n with c | c
      · exact absurd ⟨t, c, wt⟩ h
      · exact c
/-- the ways of k steps, each the first to its end -/
structure LvW (N : Str → List Str) (a : Str) (k : Nat) (rs : List (Str × List Str)) : Prop where
  fst : ∀ q ∈ rs, q.2.length = k ∧ FstW leS N a q.1 q.2
  all : ∀ c, Dst N a c k → c ∈ rs.map (·.1)
  nd : (rs.map (·.1)).Nodup
structure SeenW (N : Str → List Str) (a : Str) (k : Nat) (sn : List Str) : Prop where
  mem : ∀ x, x ∈ sn ↔ ∃ j, j ≤ k ∧ Dst N a x j
  nd : sn.Nodup
theorem LvW.start (a : Str) : LvW N a 0 [(a, [])] := ⟨fun q hq => by rw [List.mem_singleton.mp hq]; exact ⟨rfl, FstW.nil a⟩, fun c d => by
  obtain ⟨s, e, w⟩ := d.way
  rw [List.length_eq_zero_iff.mp e] at w
  rw [← (show a = c from w)]; simp, by simp⟩
theorem SeenW.start (a : Str) : SeenW N a 0 [a] := ⟨fun x => by
  rw [List.mem_singleton]
  constructor
  · rintro rfl; exact ⟨0, Nat.le_refl _, Dst.zero _⟩
  · rintro ⟨j, hj, d⟩
    obtain ⟨s, e, w⟩ := d.way
    rw [List.length_eq_zero_iff.mp (by omega : s.length = 0)] at w
    exact (show a = x from w).symm, by simp⟩
end
theorem LvW.le {nb : NB} {x : Str} (hx : x ∈ nb.map (·.1)) {k : Nat} {rs : List (Str × List Str)} (h : LvW (nbN nb) x k rs) : (∀ q ∈ rs, q.1 ∈ nb.map (·.1)) ∧ rs.length ≤ nb.length := by
  have sub : ∀ q ∈ rs, q.1 ∈ nb.map (·.1) := fun q hq => by
    have f := (h.fst q hq).2
    match e : q.2, f.w with
    | [], w => rw [← (show x = q.1 from w)]; exact hx
    | z :: r, w =>
      have l := w.last
      rw [List.getLast?_cons_cons] at l
      obtain ⟨u, hu⟩ := Wk.mem w q.1 (List.mem_of_getLast? l)
      exact nearN_sub (nbN_mem hu).2
  refine ⟨sub, ?_⟩
  have := nodup_le h.nd fun v hv => by
    obtain ⟨q, hq, rfl⟩ := List.mem_map.mp hv
    exact sub q hq
  rwa [List.length_map, List.length_map] at this
end DL
namespace DL
open PySem PySem.Spec PyProof.Rows L2
theorem cutS_tl (z : Str) (lo hi : Option Int) : TL.tl (cutS z lo hi) = ((TL.tl z).drop (HT.sIx z.length 0 lo)).take (HT.sIx z.length z.length hi - HT.sIx z.length 0 lo) := rfl
theorem cut1_tl (z : Str) : TL.tl (cutS z none (some 1)) = (TL.tl z).take 1 := by
  have hlen : z.length = (TL.tl z).length := TL.len_tl z
  rw [cutS_tl]
  show ((TL.tl z).drop 0).take (min 1 z.length - 0) = _
  rw [List.drop_zero, Nat.sub_zero]
  by_cases h1 : 1 ≤ z.length
  · rw [Nat.min_eq_left h1]
  · rw [Nat.min_eq_right (by omega), List.take_of_length_le (by omega), List.take_of_length_le (by omega)]
theorem minus_tl : TL.tl (Str.ofString "-") = [45] := by decide +kernel
theorem cut1_iff (z : Str) : cutS z none (some 1) = Str.ofString "-" ↔ ∃ l, TL.tl z = 45 :: l := by
  constructor
  · intro e
    have e2 := congrArg TL.tl e
    rw [cut1_tl, minus_tl] at e2
    cases hq : TL.tl z with
    | nil => rw [hq] at e2; cases e2
    | cons c l =>
      rw [hq] at e2
      have : c = 45 := by simpa using e2
      exact ⟨l, by rw [this]⟩
  · rintro ⟨l, e⟩
    exact TL.ext_tl (by rw [cut1_tl, minus_tl, e]; rfl)
theorem cutT_tl {z : Str} {c : Nat} {l : List Nat} (h : TL.tl z = c :: l) : TL.tl (cutS z (some 1) none) = l := by
  have hlen : z.length = (TL.tl z).length := TL.len_tl z
  rw [cutS_tl]
  have e1 : HT.sIx z.length 0 (some 1) = 1 := by
    rw [show (some 1 : Option Int) = some ((1 : Nat) : Int) from rfl, HT.sIx_nat]
    have : 1 ≤ z.length := by rw [hlen, h, List.length_cons]; omega
    omega
  have e2 : HT.sIx z.length z.length none = z.length := rfl
  rw [e1, e2, h]
  show l.take _ = _
  exact List.take_of_length_le (by rw [hlen, h, List.length_cons]; omega)
/-- a whole number's text -/
def NumF (z : Str) (i : Int) (m : Nat) : Prop := (FigOk (TL.tl z) m ∧ i = (NumText.digitsVal (TL.tl z) : Nat)) ∨ ∃ l, TL.tl z = 45 :: l ∧ FigOk l m ∧ NumText.digitsVal l ≠ 0 ∧ i = -((NumText.digitsVal l : Nat) : Int)
theorem figOk_minus {l : List Nat} {m : Nat} (h : FigOk (45 :: l) m) : False := by have := h.dig 45 (List.mem_cons_self ..); omega
theorem NumF.uniq {z : Str} {i j : Int} {m : Nat} (h : NumF z i m) (g : NumF z j m) : i = j := by
  rcases h with ⟨h1, h2⟩ | ⟨l, h1, h2, h3, h4⟩ <;> rcases g with ⟨g1, g2⟩ | ⟨l', g1, g2, g3, g4⟩
  · rw [h2, g2]
  · rw [g1] at h1; exact (figOk_minus h1).elim
  · rw [h1] at g1; exact (figOk_minus g1).elim
  · rw [h1] at g1
    injection g1 with _ e
    rw [h4, g4, e]
structure Fig200 (r : Rat) : Prop where
  n : r.num.natAbs < 10 ^ 200
  d : r.den < 10 ^ 200
theorem p200 : (10 : Nat) ^ 200 < 2 ^ 700 := by decide +kernel
theorem Fig200.sz {r : Rat} (h : Fig200 r) : Sz 1900 r := by
  have e : (2 : Nat) ^ 700 ≤ 2 ^ 1900 := Nat.pow_le_pow_right (by decide) (by decide)
  exact ⟨Nat.lt_of_lt_of_le (Nat.lt_trans h.n p200) e, Nat.lt_of_lt_of_le (Nat.lt_trans h.d p200) e⟩
theorem slash : TL.tl (Str.ofString "/") = 47 :: [] := by decide +kernel
theorem numT_free (i : Int) : 47 ∉ TL.tl (numT i) := by
  by_cases h0 : 0 ≤ i
  · obtain ⟨n, rfl⟩ : ∃ n : Nat, i = n := ⟨i.toNat, by omega⟩
    rw [tl_numN]; exact TL.numL_free (.inl (by decide))
  · obtain ⟨n, rfl, hn⟩ : ∃ n : Nat, i = -(n : Int) ∧ n ≠ 0 := ⟨i.natAbs, by omega, by omega⟩
    rw [tl_numNeg hn]
    intro h
    rcases List.mem_cons.mp h with h | h
    · cases h
    · exact TL.numL_free (.inl (by decide)) h
theorem val_fold : ∀ {l : List Nat} (a : Nat), NumText.AllDigits l → l.foldl (fun acc c => acc * 10 + (c - 48)) a < (a + 1) * 10 ^ l.length
  | [], a, _ => by simp
  | c :: l, a, h => by
    have := val_fold (l := l) (a * 10 + (c - 48)) h.tail
    have hc := h.head
    rw [List.foldl_cons, List.length_cons]
    refine Nat.lt_of_lt_of_le this ?_
    rw [Nat.pow_succ, Nat.mul_comm (10 ^ l.length) 10, ← Nat.mul_assoc]
    exact Nat.mul_le_mul_right _ (by omega)
theorem val_lt {l : List Nat} (h : NumText.AllDigits l) : NumText.digitsVal l < 10 ^ l.length := by
  have := val_fold 0 h
  rwa [Nat.zero_add, Nat.one_mul] at this
theorem fig_val {l : List Nat} {m : Nat} (h : FigOk l m) : NumText.digitsVal l < 10 ^ m := Nat.lt_of_lt_of_le (val_lt h.dig) (Nat.pow_le_pow_right (by decide) h.len)
theorem numF_val {z : Str} {i : Int} {m : Nat} (h : NumF z i m) : i.natAbs < 10 ^ m := by
  rcases h with ⟨h1, h2⟩ | ⟨l, h1, h2, h3, h4⟩
  · rw [h2, Int.natAbs_natCast]; exact fig_val h1
  · rw [h4, Int.natAbs_neg, Int.natAbs_natCast]; exact fig_val h2
theorem numF_num {i : Int} (h : i.natAbs < 10 ^ 200) : NumF (numT i) i 200 := by
  by_cases h0 : 0 ≤ i
  · obtain ⟨n, rfl⟩ : ∃ n : Nat, i = n := ⟨i.toNat, by omega⟩
    exact .inl ⟨by rw [tl_numN]; exact figOk_num (numL_len10 (by decide) (by simpa using h)), by rw [tl_numN, TL.numL_val]⟩
  · obtain ⟨n, rfl, hn⟩ : ∃ n : Nat, i = -(n : Int) ∧ n ≠ 0 := ⟨i.natAbs, by omega, by omega⟩
    refine .inr ⟨TL.numL n, tl_numNeg hn, figOk_num (numL_len10 (by decide) (by simpa using h)), by rw [TL.numL_val]; exact hn, by rw [TL.numL_val]⟩
theorem int_fig {i : Int} (h : i.natAbs < 10 ^ 200) : Fig200 (i : Rat) := ⟨h, by show 1 < 10 ^ 200; decide +kernel⟩
def IsRT (z : Str) (r : Rat) : Prop := Fig200 r ∧ z = txtR r
theorem rt_none {z : Str} (hz : 47 ∉ TL.tl z) {r : Rat} (h : IsRT z r) : (r.den : Int) = 1 ∧ NumF z r.num 200 := by
  obtain ⟨f, e⟩ := h
  have h1 : (r.den : Int) = 1 := by
    by_cases h1 : (r.den : Int) = 1
    · exact h1
    · have et : txtR r = numT r.num ++ "/" ++ numT (r.den : Int) := if_neg h1
      rw [e, et, TL.tl_append, TL.tl_append, slash] at hz
      exact absurd (by simp) hz
  refine ⟨h1, ?_⟩
  rw [e, show txtR r = numT r.num from if_pos h1]
  exact numF_num f.n
theorem rt_some {a b : Str} (ha : 47 ∉ TL.tl a) {r : Rat} (h : IsRT (a ++ "/" ++ b) r) : NumF a r.num 200 ∧ FigOk (TL.tl b) 200 ∧ NumText.digitsVal (TL.tl b) = r.den := by
  obtain ⟨f, e⟩ := h
  have h1 : ¬ (r.den : Int) = 1 := fun h1 => by
    rw [show txtR r = numT r.num from if_pos h1] at e
    refine numT_free r.num ?_
    rw [← e, TL.tl_append, TL.tl_append, slash]
    simp
  have et : txtR r = numT r.num ++ "/" ++ numT (r.den : Int) := if_neg h1
  have p1 := TL.partition_app slash ha (b := b)
  have p2 := TL.partition_app slash (numT_free r.num) (b := numT (r.den : Int))
  rw [e, et, p2] at p1
  have e1 : numT r.num = a := congrArg (·.1) p1
  have e2 : numT (r.den : Int) = b := congrArg (·.2.2) p1
  rw [← e1, ← e2]
  have hd : ((r.den : Int)).natAbs < 10 ^ 200 := by rw [Int.natAbs_natCast]; exact f.d
  refine ⟨numF_num f.n, ?_, ?_⟩
  · rw [tl_numN]; exact figOk_num (numL_len10 (by decide) f.d)
  · rw [tl_numN, TL.numL_val]
theorem cut_slash (z : Str) (h : 47 ∈ TL.tl z) : ∃ a b : Str, z = a ++ "/" ++ b ∧ 47 ∉ TL.tl a := by
  obtain ⟨l, m, e, hl⟩ := List.eq_append_cons_of_mem h
  refine ⟨⟨l.toArray⟩, ⟨m.toArray⟩, TL.ext_tl ?_, by rw [TL.tl_mk]; exact hl⟩
  rw [TL.tl_append, TL.tl_append, slash]
  exact e.trans (by show l ++ 47 :: m = l ++ [47] ++ m; simp)
/-- a word of figures -/
def OkW (w : Str) : Prop := NumText.AllDigits (TL.tl w) ∧ 1 ≤ w.length ∧ w.length ≤ 200
theorem okW_fig {w : Str} {l : List Nat} (e : TL.tl w = l) (h : FigOk l 200) : OkW w := by
  have h1 := TL.len_tl w
  have h2 := h.len
  refine ⟨by rw [e]; exact h.dig, ?_, by rw [h1, e]; exact h2⟩
  rw [h1, e]
  rcases Nat.eq_zero_or_pos l.length with q | q
  · exact absurd (List.length_eq_zero_iff.mp q) h.ne
  · exact q
theorem frac_fig {a : Int} {b : Nat} (ha : a.natAbs < 10 ^ 200) (hb : b < 10 ^ 200) (h0 : b ≠ 0) : Fig200 (Rat.divInt a (b : Int)) := by
  constructor
  · rw [Rat.num_divInt]
    refine Nat.lt_of_le_of_lt ?_ ha
    rw [Int.sign_eq_one_of_pos (by omega), Int.one_mul]
    exact Int.natAbs_ediv_le_natAbs _ _
  · rw [Rat.den_divInt]
    split
    · decide +kernel
    · exact Nat.lt_of_le_of_lt (Nat.div_le_self _ _) (by rw [Int.natAbs_natCast]; exact hb)
theorem cut0_tl (z : Str) : TL.tl (cutS z (some 0) none) = TL.tl z := by
  have hlen : z.length = (TL.tl z).length := TL.len_tl z
  rw [cutS_tl]
  have e1 : HT.sIx z.length 0 (some 0) = 0 := by
    rw [show (some 0 : Option Int) = some ((0 : Nat) : Int) from rfl, HT.sIx_nat]
    omega
  have e2 : HT.sIx z.length z.length none = z.length := rfl
  rw [e1, e2]
  show (TL.tl z).take _ = _
  exact List.take_of_length_le (by omega)
theorem cutS_len (z : Str) (lo hi : Option Int) : (cutS z lo hi).length ≤ z.length := by
  rw [TL.len_tl, cutS_tl, TL.len_tl z, List.length_take, List.length_drop]
  omega
/-- a text without its sign -/
theorem w0_spec {a : Str} {i : Int} {ng : Bool} (hg : decide (cutS a none (some 1) = Str.ofString "-") = ng) (h : NumF a i 200) :
    OkW (cutS a (some (if ng = true then 1 else 0)) none) ∧ i = (1 - 2 * (if ng = true then 1 else 0)) * ((NumText.digitsVal (TL.tl (cutS a (some (if ng = true then 1 else 0)) none)) : Nat) : Int) := by
  rcases h with ⟨h1, h2⟩ | ⟨l, h1, h2, h3, h4⟩
  · have : ¬ (cutS a none (some 1) = Str.ofString "-") := fun e => by
      obtain ⟨l, hl⟩ := (cut1_iff a).mp e
      rw [hl] at h1
      exact figOk_minus h1
    rw [decide_eq_false this] at hg
    subst hg
    show OkW (cutS a (some 0) none) ∧ i = (1 - 2 * 0) * ((NumText.digitsVal (TL.tl (cutS a (some 0) none)) : Nat) : Int)
    refine ⟨okW_fig (cut0_tl a) h1, ?_⟩
    rw [cut0_tl, h2]; omega
  · have : cutS a none (some 1) = Str.ofString "-" := (cut1_iff a).mpr ⟨l, h1⟩
    rw [decide_eq_true this] at hg
    subst hg
    show OkW (cutS a (some 1) none) ∧ i = (1 - 2 * 1) * ((NumText.digitsVal (TL.tl (cutS a (some 1) none)) : Nat) : Int)
    refine ⟨okW_fig (cutT_tl h1) h2, ?_⟩
    rw [cutT_tl h1, h4]; omega
theorem one_tl : TL.tl (Str.ofString "1") = [49] := by decide +kernel
section
variable {X : Cx} {K : PySem.W.Frag}
def rListS : List V → Hp → VK → Prop := fun xs H Q => ∃ z : Str, xs = [V.str z] ∧ z.length ≤ sizeLine ∧ ∀ q, H q = none → Q (.ref q) (upd H q (.lst ((z.cps.toList.map fun c => (⟨#[c]⟩ : Str)).map V.str)))
theorem cr_listS (hc : X.calm = true) : CallR X (.type "list") rListS := by
  intro pins s σ H xs us Q I r h
  obtain ⟨z, rfl, hz, q⟩ := h
  obtain ⟨u, rfl, rx⟩ := vals1 r
  obtain ⟨t, rfl⟩ := rx
  refine call_list_str (hn := hz) (I.ok.hd hc) z t fun h' tk acc c' hk hD hacc => ?_
  have hS : StrsAre acc.toList (z.cps.toList.map fun c => (⟨#[c]⟩ : Str)) := L2.strs_at (by rw [Array.length_toList, List.length_map, hacc.1, Array.length_toList]) fun j v e => by
    obtain ⟨c, t, e1, e2⟩ := hacc.2 j v (by rw [← Array.getElem?_toList]; exact e)
    exact ⟨⟨#[c]⟩, t, by rw [List.getElem?_map, Array.getElem?_toList, e1]; rfl, e2⟩
  exact ⟨.ref s.heap.objs.size, upd H s.heap.objs.size (.lst ((z.cps.toList.map fun c => (⟨#[c]⟩ : Str)).map V.str)), I.laid (t' := tk) hk (Nat.le_refl _)
    (show ObjOk X.prog X.w _ _ _ (.lst ((z.cps.toList.map fun c => (⟨#[c]⟩ : Str)).map V.str)) from ⟨by rw [List.length_map, List.length_map, Array.length_toList]; exact hz, acc.toList, c', vals_of_strs hS, by rw [Array.toArray_toList]; exact hD⟩), rfl, q _ (I.hok.fresh (Nat.le_refl _))⟩
def oListS : DOn := fun ds cs P => ∃ z : Str, ds = [.str z] ∧ z.length ≤ 100000 ∧ P (.lst ((z.cps.toList.map fun c => (⟨#[c]⟩ : Str)).map D.str)) cs
theorem adq_listS : AdqN K rListS oListS := fun F cs H xs ds P Q s r ho pe => by
  obtain ⟨z, rfl, hz, h⟩ := ho
  cases r with
  | cons r1 r2 =>
  cases r2
  cases r1
  refine ⟨z, rfl, by rw [sizeLine_eq]; omega, fun q hq => ?_⟩
  obtain ⟨s2, e2⟩ := s.new (o := .lst ((z.cps.toList.map fun c => (⟨#[c]⟩ : Str)).map V.str)) hq
  exact pe _ cs _ _ s2 (.lst (SqL.of e2) (RepL.ofStrs _)) h
theorem r_listS {z : Str} {cs : Cs} {P : DP} (hz : z.length ≤ 100000) (h : P (.lst ((z.cps.toList.map fun c => (⟨#[c]⟩ : Str)).map D.str)) cs) : oListS [.str z] cs P := ⟨z, rfl, hz, h⟩
end
theorem cutS_lo (z : Str) (a : Nat) : (cutS z (some (a : Int)) none).length = z.length - a := by
  have hlen : z.length = (TL.tl z).length := TL.len_tl z
  rw [TL.len_tl, cutS_tl, HT.sIx_nat, show HT.sIx z.length z.length none = z.length from rfl, List.length_take, List.length_drop, ← hlen]
  omega
theorem cutS_hi (z : Str) (a : Nat) : (cutS z none (some (a : Int))).length = min a z.length := by
  have hlen : z.length = (TL.tl z).length := TL.len_tl z
  rw [TL.len_tl, cutS_tl, HT.sIx_nat, show HT.sIx z.length 0 none = 0 from rfl, List.length_take, List.length_drop, ← hlen]
  omega
theorem cutS_mid (z : Str) (a b : Nat) : (cutS z (some (a : Int)) (some (b : Int))).length ≤ b - a := by
  rw [TL.len_tl, cutS_tl, HT.sIx_nat, HT.sIx_nat, List.length_take, List.length_drop]
  omega
theorem len_app (x y : Str) : (x ++ y).length = x.length + y.length := by
  rw [TL.len_tl, TL.tl_append, List.length_append, ← TL.len_tl, ← TL.len_tl]
end DL
namespace DL
open PySem PySem.Spec PyProof.Rows L2 LamX
theorem RepE.len {K : PySem.W.Frag} {G : Hp} : ∀ {σ : L2.St} {ρ : Env}, RepE K G σ ρ → σ.length = ρ.length
  | _, _, .nil => rfl
  | _, _, .cons _ r => congrArg Nat.succ r.len
theorem RepE.hush {K : PySem.W.Frag} {G : Hp} (v : Option V) : ∀ {σ : L2.St} {ρ : Env} (i : Nat), RepE K G σ ρ → RepE K G (σ.set i v) (ρ.set i none)
  | _, _, _, .nil => .nil
  | _, _, 0, .cons _ r => .cons .skip r
  | _, _, i + 1, .cons q r => .cons q (r.hush v i)
/-- slot i the exception's name, slot j the target -/
def sTryF (L : List Str) (fl : Str) (i j : Nat) (wb : WS) : WS := fun f ρ cs => wb ⟨f.nx, f.rt, fun x ρ' cs' => x.cls ∈ L ∧ i < ρ'.length ∧ ∃ y, x.fs.lookup fl = some y ∧ f.nx (((ρ'.set i none).set j (some y)).set i none) cs', f.bk, f.ct⟩ ρ cs
section
variable {X : Cx} {W : WX}
theorem ds_tryF {body : List Stmt} {wb : WS} {fo e c1 fl : Str} {C1 : Addr} {L : List Str} {i j : Nat} {q1 q2 q3 q4 q5 q6 p7 : Pos}
    (hst : X.stack = X.env :: X.outer) (hf : X.env.frame = some X.env.locals) (hN : X.N.Nodup) (tk : Takes X W)
    (hb : ∀ (W' : WX) (pn : List (Addr × Obj)) (xe : Value → Shared → Prop), Takes (X.tr pn xe) W' → PSs (X.tr pn xe) body (lS X.K W' wb))
    (hc : Names X c1 (.ref C1)) (hi : X.N[i]? = some e) (hk : X.env.kindOf e = some .local) (hj : X.N[j]? = some fo) (l2 : X.env.scope.names.lookup fo = some .local) (l3 : X.env.scope.names.lookup e = some .local)
    (he : (e == ("__debug__" : Str)) = false) (he2 : (e == ("__classdict__" : Str)) = false) (hij : i ≠ j) (hL : LostOk X.K (.ref C1) fl L) :
    DS X W (.Try body [.ExceptHandler (some (.Name c1 q1)) (some e) [.Assign [.Name fo q2] (.Attribute (.Name e q3) fl q4) q5] q6] [] [] p7) (sTryF L fl i j wb) := by
  have suite : ∀ (ax : Addr) (ob : Obj) (cls : Value) (d : Option Addr) (pn : List (Addr × Obj)), Zc cls d ob → (∃ vs, ob.data = .fields vs) →
      PSs (X.suite ax ((ax, ob) :: pn)) [.Assign [.Name fo q2] (.Attribute (.Name e q3) fl q4) q5] (fun D σ H => σ[i]? = some (some (.ref ax)) ∧ ∃ v, FldAt X.K fl cls d H v ∧ D.nx (σ.set j (some v)) H) := by
    intro ax ob cls d pn hz hf
    refine ⟨fun pins s1 σ1 H1 D I hw => ?_⟩
    obtain ⟨hs3, v, ⟨C, dd, fs, rfl, xf, hno, rfl, hdd, hl⟩, hn⟩ := hw
    refine (pss_one (ps_set (X := X.suite ax ((ax, ob) :: pn)) (i := j) hN hj (.inl l2) (pe_xf xf hno hz hf (pe_var (i := i) hi (.inl l3) he he2)) (hf := .inr l2))).run pins s1 σ1 H1 D I ?_
    exact ⟨.ref ax, hs3, rfl, rfl, dd, fs, v, rfl, hdd, hl, hn⟩
  refine PS.imp (ps_try_cls hst hf hN tk (tb := fun W' => lS X.K W' wb) (fun W' pn xe tk' _ => hb W' pn xe tk') (.cons hc (.yes (i := i) hi hk) (fun ax ob cls d pn hz hf => suite ax ob cls d pn hz hf) .nil)) fun D σ H h => ?_
  obtain ⟨F, cs, ρ, f, s, re, hw, ps⟩ := h
  refine ⟨F, cs, ρ, _, s, re, hw, ⟨ps.nx, ps.bk, ps.ct, ps.rt, fun H' cs' σ' ρ' x d s' r' xr hx => ?_⟩⟩
  obtain ⟨hx1, hil, y, hy, hn⟩ := hx
  obtain ⟨⟨b1, e1, f1⟩, h3, h4⟩ := hL _ hx1
  obtain ⟨dd, xs, rfl, e2, rx⟩ := xr
  obtain ⟨v, hv, rv⟩ := rx.get hy
  refine ⟨b1, e1, fun _ ax _ => ⟨?_, v, ⟨_, dd, xs, rfl, h3, h4, rfl, pur_le _ _ e2, hv⟩, ?_⟩, fun h1 => (f1 h1).elim⟩
  · show (σ'.set i (some (.ref ax)))[i]? = _
    rw [List.getElem?_set_self (by rw [r'.len]; exact hil)]
  · show D.nx (((σ'.set i (some (.ref ax))).set j (some v)).set i none) H'
    exact ps.nx _ _ _ _ s' (((r'.hush _ i).set rv j).hush _ i) hn
end
theorem r_tryF {L : List Str} {fl : Str} {i j : Nat} {wb : WS} {f : DL.Fin} {ρ : DL.Env} {cs : Cs} (h : wb ⟨f.nx, f.rt, fun x ρ' cs' => x.cls ∈ L ∧ i < ρ'.length ∧ ∃ y, x.fs.lookup fl = some y ∧ f.nx (((ρ'.set i none).set j (some y)).set i none) cs', f.bk, f.ct⟩ ρ cs) : sTryF L fl i j wb f ρ cs := h
def figB (l : List Nat) : Bool := !l.isEmpty && decide (l.length ≤ 200) && (l.all fun c => decide (48 ≤ c) && decide (c ≤ 57)) && (!(l.head? == some 48) || decide (l.length = 1))
def numB : List Nat → Bool
  | 45 :: l => figB l && !(NumText.digitsVal l == 0)
  | l => figB l
def absV : List Nat → Nat
  | 45 :: l => NumText.digitsVal l
  | l => NumText.digitsVal l
theorem figB_ok {l : List Nat} (h : FigOk l 200) : figB l = true := by
  unfold figB
  have h1 := h.ne
  have h2 := h.len
  have h3 := h.dig
  have h4 := h.hd
  have e1 : l.isEmpty = false := by cases l with | nil => exact absurd rfl h1 | cons _ _ => rfl
  have e3 : (l.all fun c => decide (48 ≤ c) && decide (c ≤ 57)) = true := List.all_eq_true.mpr fun c hc => by
    have := h3 c hc
    rw [decide_eq_true this.1, decide_eq_true this.2]; rfl
  rw [e1, decide_eq_true h2, e3]
  by_cases q : l.head? = some 48
  · rw [decide_eq_true (h4 q)]; simp
  · rw [show (l.head? == some 48) = false from beq_eq_false_iff_ne.mpr q]; rfl
theorem numB_ok {a : Str} {i : Int} (h : NumF a i 200) : numB (TL.tl a) = true ∧ i.natAbs = absV (TL.tl a) := by
  rcases h with ⟨h1, h2⟩ | ⟨l, h1, h2, h3, h4⟩
  · have hn : ∀ l, TL.tl a ≠ 45 :: l := fun l e => by rw [e] at h1; exact figOk_minus h1
    have e1 : numB (TL.tl a) = figB (TL.tl a) := by
      unfold numB
      split
      · rename_i l e; exact absurd e (hn l)
      · rfl
    have e2 : absV (TL.tl a) = NumText.digitsVal (TL.tl a) := by
      unfold absV
      split
      · rename_i l e; exact absurd e (hn l)
      · rfl
    rw [e1, e2, h2]
    exact ⟨figB_ok h1, Int.natAbs_natCast _⟩
  · rw [h1, h4]
    refine ⟨?_, by rw [Int.natAbs_neg, Int.natAbs_natCast]; rfl⟩
    show (figB l && !(NumText.digitsVal l == 0)) = true
    rw [figB_ok h2, beq_eq_false_iff_ne.mpr h3]; rfl
/-- no part has this text -/
def noRT (z : Str) : Bool :=
  let l := TL.tl z
  if l.contains 47 then
    let a := l.takeWhile fun c => !(c == 47)
    let b := l.drop (a.length + 1)
    !(numB a && figB b && decide (Nat.gcd (absV a) (NumText.digitsVal b) = 1) && !(NumText.digitsVal b == 1) && !(NumText.digitsVal b == 0))
  else !numB l
theorem take_not {l : List Nat} {m : List Nat} (h : 47 ∉ l) : (l ++ 47 :: m).takeWhile (fun c => !(c == 47)) = l := by
  induction l with
  | nil => rfl
  | cons c l ih =>
    have hc : (c == 47) = false := beq_eq_false_iff_ne.mpr fun e => h (by rw [e]; exact List.mem_cons_self ..)
    rw [List.cons_append, List.takeWhile_cons, hc]
    show c :: _ = c :: l
    rw [ih fun z => h (List.mem_cons_of_mem _ z)]
theorem drop_not : ∀ (l m : List Nat), (l ++ 47 :: m).drop (l.length + 1) = m
  | [], _ => rfl
  | _ :: l, m => drop_not l m
theorem noRT_ok {z : Str} (h : noRT z = true) (r : Rat) : ¬ IsRT z r := fun hr => by
  unfold noRT at h
  by_cases hs : 47 ∈ TL.tl z
  · rw [if_pos (List.contains_iff_mem.mpr hs)] at h
    obtain ⟨a, b, rfl, ha⟩ := cut_slash z hs
    have et : TL.tl (a ++ "/" ++ b) = TL.tl a ++ 47 :: TL.tl b := by rw [TL.tl_append, TL.tl_append, slash]; simp
    rw [et, take_not ha] at h
    dsimp only at h
    rw [drop_not] at h
    obtain ⟨h1, h2, h3⟩ := rt_some ha hr
    obtain ⟨g1, g2⟩ := numB_ok h1
    have hd : r.den ≠ 1 := fun e => by
      obtain ⟨_, e2⟩ := hr
      rw [show txtR r = numT r.num from if_pos (by rw [e]; rfl)] at e2
      refine numT_free r.num ?_
      rw [← e2, et]; simp
    rw [g1, figB_ok h2, h3, ← g2, decide_eq_true (show Nat.gcd r.num.natAbs r.den = 1 from r.reduced), beq_eq_false_iff_ne.mpr hd, beq_eq_false_iff_ne.mpr r.den_nz] at h
    cases h
  · rw [if_neg (fun q => hs (List.contains_iff_mem.mp q))] at h
    obtain ⟨_, h2⟩ := rt_none hs hr
    rw [(numB_ok h2).1] at h
    cases h
theorem isRT_uniq {z : Str} {r t : Rat} (h : IsRT z r) (g : IsRT z t) : r = t := by
  by_cases hs : 47 ∈ TL.tl z
  · obtain ⟨a, b, rfl, ha⟩ := cut_slash z hs
    obtain ⟨h1, _, h3⟩ := rt_some ha h
    obtain ⟨g1, _, g3⟩ := rt_some ha g
    exact Rat.ext (h1.uniq g1) (h3.symm.trans g3)
  · obtain ⟨h1, h2⟩ := rt_none hs h
    obtain ⟨g1, g2⟩ := rt_none hs g
    exact Rat.ext (h2.uniq g2) (Int.ofNat.inj (h1.trans g1.symm))
end DL
namespace Lw
open PySem PySem.Spec PyProof.Rows L2 DL
local macro_rules | `(tactic| walk_at "st") => `(tactic| (first
  | with_reducible refine r_kT ?_ | with_reducible refine r_kF ?_ | with_reducible refine r_nT ?_ | with_reducible refine r_nF ?_ | with_reducible refine r_nx ?_ | with_reducible refine r_rt ?_ | with_reducible refine r_bk ?_ | with_reducible refine r_cn ?_ | with_reducible refine r_gN ?_ | with_reducible refine r_gCn ?_ | with_reducible refine r_gNl ?_ | ((with_reducible apply r_gT); (exact rfl)) | with_reducible refine r_sif ?_ | with_reducible refine r_set ?_ | with_reducible refine r_asg ?_ | with_reducible refine r_ret ?_ | with_reducible refine r_op ?_ | with_reducible refine r_test ?_
  | ((with_reducible apply r_var); (exact rfl)) | with_reducible refine r_c ?_ | with_reducible refine r_cons ?_ | with_reducible refine r_nil ?_ | with_reducible refine r_call ?_ | with_reducible refine r_cb ?_
  | with_reducible refine r_tup ?_ | with_reducible refine r_lst ?_ | with_reducible refine r_par ?_ | with_reducible refine r_setix ?_ | with_reducible refine r_and ?_ | with_reducible refine r_or ?_ | with_reducible refine r_not ?_
  | with_reducible refine r_if ?_ | with_reducible refine r_andV ?_ | with_reducible refine r_orV ?_ | with_reducible refine r_notV ?_ | with_reducible refine r_drop ?_ | with_reducible refine r_next ?_ | with_reducible refine r_un ?_ | with_reducible refine r_for ?_
  | with_reducible refine r_mtL ?_ | with_reducible refine r_mtL0 ?_ | with_reducible refine r_seqI ?_ | with_reducible refine r_tupI ?_ | with_reducible refine r_rg1 ?_ | with_reducible refine r_retN ?_ | with_reducible refine r_brk ?_ | with_reducible refine r_ct ?_
  | with_reducible refine r_ixR0 ?_ | with_reducible refine r_ixR1 ?_ | with_reducible refine r_add ?_ | with_reducible refine r_sub ?_ | with_reducible refine r_lt ?_ | with_reducible refine r_le ?_ | with_reducible refine r_gt ?_ | with_reducible refine r_ge ?_ | with_reducible refine r_neg ?_
  | with_reducible refine r_eqI ?_ | with_reducible refine r_neI ?_ | with_reducible refine r_eqR ?_ | with_reducible refine r_neR ?_ | with_reducible refine r_eqBs ?_ | with_reducible refine r_neBs ?_ | with_reducible refine r_isN ?_ | with_reducible refine r_notN ?_ | with_reducible refine r_isBs ?_ | with_reducible refine r_notBs ?_ | with_reducible refine r_isB ?_ | with_reducible refine r_notB ?_ | with_reducible refine r_eqB ?_ | with_reducible refine r_neB ?_ | with_reducible refine r_eqS ?_ | with_reducible refine r_neS ?_
  | ((with_reducible apply r_ixT); (exact rfl)) | ((with_reducible apply r_ixL); (exact rfl))
  | ((with_reducible apply r_ixM); (first | assumption | exact look_put (by assumption) | exact look_put (look_put (by assumption)) | exact look_put (look_put (look_put (by assumption))) | exact look_put (look_put (look_put (look_put (by assumption))))); (exact rfl))
  | ((with_reducible apply r_setL); (first | assumption | exact look_put (by assumption) | exact look_put (look_put (by assumption)) | exact look_put (look_put (look_put (by assumption))) | exact look_put (look_put (look_put (look_put (by assumption))))); (exact rfl))
  | ((with_reducible apply r_mul); (first | exact mulOk_r (by decide) | exact mulOk_l (by decide) | assumption | exact mulOk_r (by omega) | exact mulOk_l (by omega)))
  | ((with_reducible apply r_mod); (first | assumption | decide)) | ((with_reducible apply r_div); (first | assumption | exact ⟨by decide, by decide⟩)) | ((with_reducible apply r_pow); (exact ⟨by decide, by decide, by decide⟩))
  | ((with_reducible apply r_count); (exact rfl); (exact rfl)) | with_reducible refine r_abs ?_ | ((with_reducible apply r_isiT); (exact rfl)) | ((with_reducible apply r_isiF); (exact rfl)) | ((with_reducible apply r_isiTT); (exact rfl); (exact rfl); (exact rfl)) | ((with_reducible apply r_isiTF); (exact rfl); (exact rfl); (exact rfl)) | with_reducible refine r_tupleL ?_ | with_reducible refine r_tupleT ?_ | with_reducible refine r_sl ?_ | with_reducible refine r_revL ?_ | with_reducible refine r_revLL ?_ | with_reducible refine r_noPart ?_ | with_reducible refine DL.r_part ?_ | with_reducible refine r_slL ?_ | with_reducible refine r_slT ?_ | with_reducible refine r_yes ?_ | with_reducible refine r_comp ?_ | with_reducible refine r_zipL ?_ | with_reducible refine r_lenL ?_ | with_reducible refine r_lenT ?_ | with_reducible refine r_listL ?_ | with_reducible refine r_listT ?_ | with_reducible refine r_isL ?_
  | with_reducible refine r_ixB0 ?_ | with_reducible refine r_ixB1 ?_ | with_reducible refine r_ixB2 ?_ | with_reducible refine r_ixB3 ?_ | with_reducible refine r_eqDn ?_ | with_reducible refine r_eqAc ?_ | with_reducible refine r_frz ?_ | with_reducible refine r_frzH ?_ | (with_reducible refine ⟨_, _, rfl, look_hd, ?_⟩; rw [del_hd]) | with_reducible refine r_isMH ?_ | with_reducible refine r_lstM ?_ | with_reducible refine r_chain ?_ | with_reducible refine r_par3 ?_ | with_reducible refine r_callK ?_ | with_reducible refine r_anyI ?_ | with_reducible refine r_callD ?_
  | ((with_reducible apply r_aug); (exact rfl))))
local macro_rules | `(tactic| walk_at "g1") => `(tactic| repeat (walk_at "st"))
local macro_rules | `(tactic| walk_at "go") => `(tactic| repeat (first | with_reducible refine r_seq ?_ | walk_at "st"))
local macro_rules | `(tactic| walk_at "s2") => `(tactic| (first
  | with_reducible refine r_compM_ ?_ | with_reducible refine r_comp2 ?_ | with_reducible refine r_zip ?_ | with_reducible refine r_zipM ?_ | with_reducible refine r_lenH ?_ | with_reducible refine r_lenXL ?_ | with_reducible refine r_tupH ?_ | with_reducible refine r_tupXL ?_ | with_reducible refine r_tupXT ?_ | with_reducible refine r_listXH ?_ | with_reducible refine r_listXL ?_ | with_reducible refine r_listXT ?_ | with_reducible refine r_listML ?_ | with_reducible refine r_listMT ?_ | with_reducible refine r_listDD ?_ | with_reducible refine r_listDM ?_ | with_reducible refine r_dictDD ?_ | with_reducible refine r_min2 ?_ | with_reducible refine r_max2 ?_ | with_reducible refine r_sumL ?_ | with_reducible refine r_sumT ?_ | with_reducible refine r_clearH ?_ | with_reducible refine r_gStar ?_ | with_reducible refine r_gone ?_ | with_reducible refine r_goneH ?_ | with_reducible refine r_ix0 ?_ | with_reducible refine r_ix0T ?_ | with_reducible refine r_slAL ?_ | with_reducible refine r_slAT ?_ | with_reducible refine r_flatB ?_ | with_reducible refine r_dn1 ?_ | with_reducible refine r_ac1 ?_ | with_reducible refine r_dn2 ?_ | with_reducible refine r_ac2 ?_ | with_reducible refine r_dn3 ?_ | with_reducible refine r_ac3 ?_ | with_reducible refine r_dn4 ?_ | with_reducible refine r_ac4 ?_ | with_reducible refine r_dn5 ?_ | with_reducible refine r_ac5 ?_ | with_reducible refine r_app11 ?_ | with_reducible refine r_app12 ?_ | with_reducible refine r_app21 ?_ | with_reducible refine r_app22 ?_ | with_reducible refine r_app31 ?_ | with_reducible refine r_app32 ?_ | with_reducible refine r_app41 ?_ | with_reducible refine r_app42 ?_ | with_reducible refine r_app51 ?_ | with_reducible refine r_app52 ?_
  | ((with_reducible apply r_lenW); (assumption)) | ((with_reducible apply r_sumW); (assumption)) | ((with_reducible apply r_catLL); (walk_at "in")) | ((with_reducible apply r_catML); (walk_at "in")) | ((with_reducible apply r_catT); (walk_at "in")) | ((with_reducible apply r_catB); (walk_at "in")) | ((with_reducible apply r_appendH); (walk_at "in"))))
local macro_rules | `(tactic| walk_at "s0") => `(tactic| (first
  | with_reducible refine q_sif ?_ | with_reducible refine q_set ?_ | with_reducible refine q_asg ?_ | with_reducible refine q_ret ?_ | with_reducible refine q_drop ?_ | with_reducible refine q_next ?_ | with_reducible refine q_par ?_ | with_reducible refine q_for ?_ | with_reducible refine q_par3 ?_ | with_reducible refine q_setix ?_ | with_reducible refine q_brk ?_ | with_reducible refine q_ct ?_ | with_reducible refine q_retN ?_ | ((with_reducible apply q_aug); (exact rfl))))
local macro_rules | `(tactic| walk_at "cl") => `(tactic| fail)
local macro_rules | `(tactic| walk_at "n0") => `(tactic| (first | ((with_reducible refine g_e ?_); (first | with_reducible refine r_op ?_ | ((with_reducible apply r_var); (exact rfl)) | with_reducible refine r_c ?_ | with_reducible refine r_call ?_ | with_reducible refine r_cb ?_ | with_reducible refine r_tup ?_ | with_reducible refine r_lst ?_ | with_reducible refine r_if ?_ | with_reducible refine r_andV ?_ | with_reducible refine r_orV ?_ | with_reducible refine r_notV ?_ | with_reducible refine r_un ?_ | with_reducible refine r_mtL ?_ | with_reducible refine r_mtL0 ?_ | with_reducible refine r_sl ?_ | with_reducible refine r_revL ?_ | with_reducible refine r_revLL ?_ | with_reducible refine r_comp ?_ | with_reducible refine r_frz ?_ | with_reducible refine r_frzD ?_ | with_reducible refine r_lstM ?_ | with_reducible refine r_chain ?_ | with_reducible refine r_callK ?_ | with_reducible refine r_callD ?_ | with_reducible refine r_compM_ ?_ | with_reducible refine r_comp2 ?_ | with_reducible refine r_gone ?_ | with_reducible refine r_newK ?_ | with_reducible refine r_newT ?_ | with_reducible refine r_oneK ?_ | with_reducible refine r_lockD ?_ | with_reducible refine r_dcK ?_ | with_reducible refine r_dcT ?_ | with_reducible refine r_dcKT ?_ | with_reducible refine r_lstR ?_ | with_reducible refine r_lstZ ?_ | with_reducible refine r_lstRM ?_ | with_reducible refine r_mtD ?_ | with_reducible refine r_get2 ?_ | with_reducible refine r_lenSet ?_ | with_reducible refine r_lenSetX ?_ | with_reducible refine r_sortSetX ?_ | with_reducible refine r_lrep ?_ | with_reducible refine r_lrepM ?_ | with_reducible refine r_slrep ?_ | with_reducible refine r_callG ?_ | ((with_reducible apply r_lam); (walk_at "tb")) | with_reducible refine r_ask ?_ | with_reducible refine r_why ?_ | with_reducible refine r_lost ?_ | with_reducible refine r_m1 ?_ | with_reducible refine r_fmt ?_ | with_reducible refine r_joined ?_)) | ((with_reducible refine g_a ?_); (first | with_reducible refine r_cons ?_ | with_reducible refine r_nil ?_ | with_reducible refine r_seqI ?_ | with_reducible refine r_tupI ?_ | with_reducible refine r_rg1 ?_ | with_reducible refine r_zipL ?_ | with_reducible refine r_anyI ?_ | with_reducible refine r_zip ?_ | with_reducible refine r_zipM ?_ | with_reducible refine r_keysI ?_ | with_reducible refine r_itT ?_ | with_reducible refine r_strI ?_ | with_reducible refine r_orT ?_ | with_reducible refine r_itK ?_ | with_reducible refine r_rg2 ?_ | with_reducible refine r_rev1 ?_ | with_reducible refine r_enum ?_ | with_reducible refine r_rg3 ?_)) | ((with_reducible refine g_2 ?_); (first | with_reducible refine r_ixR0 ?_ | with_reducible refine r_ixR1 ?_ | with_reducible refine r_add ?_ | with_reducible refine r_sub ?_ | with_reducible refine r_lt ?_ | with_reducible refine r_le ?_ | with_reducible refine r_gt ?_ | with_reducible refine r_ge ?_ | with_reducible refine r_eqI ?_ | with_reducible refine r_neI ?_ | with_reducible refine r_eqR ?_ | with_reducible refine r_neR ?_ | with_reducible refine r_eqSs ?_ | with_reducible refine r_neSs ?_ | with_reducible refine r_eqBs ?_ | with_reducible refine r_neBs ?_ | with_reducible refine r_isN ?_ | with_reducible refine r_notN ?_ | with_reducible refine r_isBs ?_ | with_reducible refine r_notBs ?_ | with_reducible refine r_isB ?_ | with_reducible refine r_notB ?_ | with_reducible refine r_eqB ?_ | with_reducible refine r_neB ?_ | with_reducible refine r_eqS ?_ | with_reducible refine r_neS ?_ | ((with_reducible apply r_ixT); (exact rfl)) | ((with_reducible apply r_ixL); (exact rfl)) | ((with_reducible apply r_ixM); (first | assumption | exact look_put (by assumption) | exact look_put (look_put (by assumption)) | exact look_put (look_put (look_put (by assumption))) | exact look_put (look_put (look_put (look_put (by assumption))))); (exact rfl)) | ((with_reducible apply r_mul); (first | exact mulOk_r (by decide) | exact mulOk_l (by decide) | assumption | exact mulOk_r (by omega) | exact mulOk_l (by omega))) | ((with_reducible apply r_mod); (first | assumption | decide)) | ((with_reducible apply r_div); (first | assumption | exact ⟨by decide, by decide⟩)) | ((with_reducible apply r_pow); (exact ⟨by decide, by decide, by decide⟩)) | with_reducible refine r_ixB0 ?_ | with_reducible refine r_ixB1 ?_ | with_reducible refine r_ixB2 ?_ | with_reducible refine r_ixB3 ?_ | with_reducible refine r_eqDn ?_ | with_reducible refine r_eqAc ?_ | with_reducible refine r_ix0 ?_ | with_reducible refine r_ix0T ?_ | ((with_reducible apply r_catLL); (walk_at "in")) | ((with_reducible apply r_catML); (walk_at "in")) | ((with_reducible apply r_catT); (walk_at "in")) | ((with_reducible apply r_catB); (walk_at "in")) | ((with_reducible apply r_catS); (walk_at "in")) | with_reducible refine r_inS ?_ | ((with_reducible apply r_getSh); (walk_at "in"); (walk_at "in"); (walk_at "in")) | ((with_reducible apply r_getKI); (first | assumption | (walk_at "lk"))) | ((with_reducible apply r_getKS); (first | assumption | (walk_at "lk"))) | ((with_reducible apply r_getT2); (first | assumption | (walk_at "lk"))) | ((with_reducible apply r_getMI); (first | exact look_hd | assumption); (first | assumption | (walk_at "lk"))) | ((with_reducible apply r_getMS); (first | exact look_hd | assumption); (first | assumption | (walk_at "lk"))) | ((with_reducible apply r_getMT2); (first | exact look_hd | assumption); (first | assumption | (walk_at "lk"))) | with_reducible refine r_inKI ?_ | with_reducible refine r_inKS ?_ | with_reducible refine r_inT2 ?_ | with_reducible refine r_notKI ?_ | with_reducible refine r_notKS ?_ | with_reducible refine r_inLI ?_ | with_reducible refine r_inTI ?_ | with_reducible refine r_niLI ?_ | with_reducible refine r_niTI ?_ | with_reducible refine r_inLS ?_ | with_reducible refine r_niLS ?_ | ((with_reducible apply r_inMI); (first | exact look_hd | assumption)) | ((with_reducible apply r_inMS); (first | exact look_hd | assumption)) | ((with_reducible apply r_notMI); (first | exact look_hd | assumption)) | ((with_reducible apply r_notMS); (first | exact look_hd | assumption)))) | ((with_reducible refine g_c ?_); (first | with_unfolding_none refine r_kT ?_ | with_unfolding_none refine r_kF ?_ | with_unfolding_none refine r_nT ?_ | with_unfolding_none refine r_nF ?_ | with_reducible refine r_isL ?_ | with_reducible refine r_isMH ?_ | ((with_reducible apply r_isDM); (first | exact look_hd | assumption)) | with_reducible refine r_ddK ?_ | ((with_reducible apply r_ddM); (first | exact look_hd | assumption)) | with_reducible refine r_flatB ?_)) | ((with_reducible refine g_t ?_); (first | with_reducible refine r_test ?_ | with_reducible refine r_and ?_ | with_reducible refine r_or ?_ | with_reducible refine r_not ?_ | with_reducible refine r_yes ?_)) | ((with_reducible refine g_p ?_); (first | with_reducible refine r_dn1 ?_ | with_reducible refine r_ac1 ?_ | with_reducible refine r_dn2 ?_ | with_reducible refine r_ac2 ?_ | with_reducible refine r_dn3 ?_ | with_reducible refine r_ac3 ?_ | with_reducible refine r_dn4 ?_ | with_reducible refine r_ac4 ?_ | with_reducible refine r_dn5 ?_ | with_reducible refine r_ac5 ?_ | with_reducible refine r_app11 ?_ | with_reducible refine r_app12 ?_ | with_reducible refine r_app21 ?_ | with_reducible refine r_app22 ?_ | with_reducible refine r_app31 ?_ | with_reducible refine r_app32 ?_ | with_reducible refine r_app41 ?_ | with_reducible refine r_app42 ?_ | with_reducible refine r_app51 ?_ | with_reducible refine r_app52 ?_ | walk_at "cl")) | ((with_reducible refine g_n ?_); (first | with_reducible refine r_abs ?_ | ((with_reducible apply r_isiT); (exact rfl)) | ((with_reducible apply r_isiF); (exact rfl)) | ((with_reducible apply r_isiTT); (exact rfl); (exact rfl); (exact rfl)) | ((with_reducible apply r_isiTF); (exact rfl); (exact rfl); (exact rfl)) | with_reducible refine r_tupleL ?_ | with_reducible refine r_tupleT ?_ | with_reducible refine r_lenL ?_ | with_reducible refine r_lenT ?_ | with_reducible refine r_listL ?_ | with_reducible refine r_listT ?_ | with_reducible refine r_listB ?_ | with_reducible refine r_lenB ?_ | with_reducible refine r_lenH ?_ | with_reducible refine r_lenXL ?_ | with_reducible refine r_tupH ?_ | with_reducible refine r_tupXL ?_ | with_reducible refine r_tupXT ?_ | with_reducible refine r_listXH ?_ | with_reducible refine r_listXL ?_ | with_reducible refine r_listXT ?_ | with_reducible refine r_listML ?_ | with_reducible refine r_listMT ?_ | with_reducible refine r_listDD ?_ | with_reducible refine r_listDM ?_ | with_reducible refine r_dictDD ?_ | with_reducible refine r_min2 ?_ | with_reducible refine r_max2 ?_ | with_reducible refine r_sumL ?_ | with_reducible refine r_sumT ?_ | ((with_reducible apply r_lenW); (assumption)) | ((with_reducible apply r_sumW); (assumption)))) | ((with_reducible refine g_g ?_); (first | with_reducible refine r_gN ?_ | ((with_reducible apply r_gT); (exact rfl)) | ((with_reducible apply r_gL); (exact rfl)) | with_reducible refine r_gStar ?_)) | ((with_reducible refine g_gs ?_); (first | with_reducible refine r_gCn ?_ | with_reducible refine r_gNl ?_)) | ((with_reducible refine g_m ?_); (first | ((with_reducible apply r_count); (exact rfl); (exact rfl)) | with_reducible refine r_clearH ?_ | ((with_reducible apply r_appendH); (walk_at "in")) | ((with_reducible apply r_updH); (walk_at "in")))) | ((with_reducible refine g_o ?_); (first | with_reducible refine r_noPart ?_ | with_reducible refine DL.r_part ?_)) | ((with_reducible refine g_w ?_); (first | ((with_reducible apply r_setL); (first | assumption | exact look_put (by assumption) | exact look_put (look_put (by assumption)) | exact look_put (look_put (look_put (by assumption))) | exact look_put (look_put (look_put (look_put (by assumption))))); (exact rfl)) | ((with_reducible apply r_setKI); (walk_at "in")) | ((with_reducible apply r_setKS); (walk_at "in")))) | with_reducible refine r_isStr ?_ | with_reducible refine r_jsC ?_ | with_reducible refine r_jsN ?_ | with_reducible refine r_neg ?_ | with_reducible refine r_slL ?_ | with_reducible refine r_slT ?_ | with_reducible refine r_slB ?_ | with_reducible refine r_frzH ?_ | (with_reducible refine ⟨_, _, rfl, look_hd, ?_⟩; rw [del_hd]) | with_reducible refine r_goneH ?_ | with_reducible refine r_slAL ?_ | with_reducible refine r_slAT ?_ | ((with_reducible apply r_setT2); (walk_at "in")) | (with_reducible refine ⟨_, rfl, look_hd, ?_⟩; rw [put_hd]) | (with_reducible refine ⟨_, rfl, Or.inl ⟨_, look_hd, ?_⟩⟩; rw [del_hd]) | (with_reducible refine ⟨_, rfl, Or.inr ⟨_, look_hd, ?_⟩⟩; rw [del_hd]) | with_reducible refine r_goneEx ?_ | with_reducible refine r_gvKI ?_ | with_reducible refine r_gvKS ?_ | ((with_reducible apply r_gvMI); (first | exact look_hd | assumption)) | ((with_reducible apply r_gvMS); (first | exact look_hd | assumption)) | with_reducible refine r_ks2 ?_ | with_reducible refine r_kkI ?_ | with_reducible refine r_kkS ?_ | ((with_reducible apply r_pk2); (exact rfl); (exact rfl)) | ((with_reducible apply r_pk1); (exact rfl)) | ((with_reducible apply r_lrepE); (walk_at "in"); (walk_at "in")) | refine And.intro (show _ ∈ exL by decide) ⟨_, rfl, ?_⟩))
local macro_rules | `(tactic| walk_at "nS") => `(tactic| ((with_reducible refine g_s ?_); (first | with_reducible refine r_raise ?_ | with_reducible refine r_raise1 ?_ | with_reducible refine r_raiseD ?_ | with_reducible refine q_sif ?_ | with_reducible refine q_set ?_ | with_reducible refine q_asg ?_ | with_reducible refine q_ret ?_ | with_reducible refine q_drop ?_ | with_reducible refine q_next ?_ | with_reducible refine q_par ?_ | with_reducible refine q_for ?_ | with_reducible refine q_par3 ?_ | with_reducible refine q_setix ?_ | with_reducible refine q_brk ?_ | with_reducible refine q_ct ?_ | with_reducible refine q_retN ?_ | with_reducible refine q_setDK ?_ | with_reducible refine q_setDT ?_ | with_reducible refine q_goneA ?_ | with_reducible refine q_frzA ?_ | with_reducible refine q_lockA ?_ | with_reducible refine q_setSl ?_ | ((with_reducible apply q_aug); (exact rfl)))))
local macro_rules | `(tactic| walk_at "nQ") => `(tactic| ((with_reducible refine g_s ?_); (first | with_reducible refine r_raise ?_ | with_reducible refine r_raise1 ?_ | with_reducible refine r_raiseD ?_ | with_reducible refine r_seq ?_ | with_reducible refine q_sif ?_ | with_reducible refine q_set ?_ | with_reducible refine q_asg ?_ | with_reducible refine q_ret ?_ | with_reducible refine q_drop ?_ | with_reducible refine q_next ?_ | with_reducible refine q_par ?_ | with_reducible refine q_for ?_ | with_reducible refine q_par3 ?_ | with_reducible refine q_setix ?_ | with_reducible refine q_brk ?_ | with_reducible refine q_ct ?_ | with_reducible refine q_retN ?_ | with_reducible refine q_setDK ?_ | with_reducible refine q_setDT ?_ | with_reducible refine q_goneA ?_ | with_reducible refine q_frzA ?_ | with_reducible refine q_lockA ?_ | with_reducible refine q_setSl ?_ | ((with_reducible apply q_aug); (exact rfl)))))
local macro_rules | `(tactic| walk_at "lk") => `(tactic| fail)
local macro_rules | `(tactic| walk_at "ge") => `(tactic| first | assumption | exact Rat.le_refl)
local macro_rules | `(tactic| walk_at "G1") => `(tactic| repeat (first | walk_at "nS" | walk_at "n0"))
local macro_rules | `(tactic| walk_at "GO") => `(tactic| repeat (first | walk_at "nQ" | walk_at "n0"))
local macro_rules | `(tactic| walk_at "nz") => `(tactic| first | assumption | (refine Rat.ne_of_gt ?_; walk_at "pz"))
local macro_rules | `(tactic| walk_at "pz") => `(tactic| first | assumption | (refine Bx.Pos.w ?_; assumption) | (refine Bx.Pos.h ?_; assumption) | (apply Rat.mul_pos <;> walk_at "pz") | (apply divInt_pos' <;> omega) | (apply Rat.div_pos <;> walk_at "pz"))
local macro_rules | `(tactic| walk_at "sy") => `(tactic| first | assumption | ((apply Bx.Sz.l); assumption) | ((apply Bx.Sz.t); assumption) | ((apply Bx.Sz.w); assumption) | ((apply Bx.Sz.h); assumption) | (apply Sz.absR; walk_at "sy") | (apply Sz.add <;> walk_at "sy") | (apply Sz.sub <;> walk_at "sy") | (apply Sz.mul <;> walk_at "sy") | ((apply Sz.shape); (walk_at "sy"); (walk_at "sy"); (walk_at "pz"); (walk_at "pz")) | ((apply Sz.div); (walk_at "sy"); (walk_at "sy"); (walk_at "nz")) | (apply Sz.frac <;> omega))
local macro_rules | `(tactic| walk_at "sz") => `(tactic| first | assumption | ((apply Sz.mono); (walk_at "sy"); (decide)) | ((apply Bx.Sz.mono); (assumption); (decide)) | exact ⟨by decide, by decide⟩)
local macro_rules | `(tactic| walk_at "bg") => `(tactic| first | assumption | exact BagStep.bag (by assumption) | ((refine BagIn.over ?_ ?_); (assumption); (walk_at "bg")))
local macro_rules | `(tactic| walk_at "in") => `(tactic| first | with_reducible assumption | omega | decide | (simp only [List.length_map, List.length_cons, List.length_nil, List.length_append, List.length_take, List.length_drop]; omega))
local macro_rules | `(tactic| walk_at "wd") => `(tactic| first | assumption | exact WD.l _ | exact WD.t _)
local macro_rules | `(tactic| walk_at "p9") => `(tactic| first | assumption | exact szlt (by omega) (by omega))
local macro_rules | `(tactic| walk_at "pb") => `(tactic| first | assumption)
local macro_rules | `(tactic| walk_at "zs") => `(tactic| first | assumption)
local macro_rules | `(tactic| walk_at "pl") => `(tactic| first | assumption | rfl | ((apply plD_Bxs); (walk_at "in")) | ((apply plD_ints); (walk_at "in")) | ((apply plD_intsT); (walk_at "in")) | exact plD_dR _)
local macro_rules | `(tactic| walk_at "tb") => `(tactic| first | with_reducible assumption | (apply tb_step; assumption; assumption; walk_at "tb") | (apply tb_cons; assumption; walk_at "tb") | (apply tb_put; assumption; walk_at "tb"))
local macro_rules | `(tactic| walk_at "nm") => `(tactic| first | assumption | (refine List.mem_map.mpr ⟨(_, _), ?_, rfl⟩; assumption))
local macro_rules | `(tactic| walk_at "wk") => `(tactic| first | assumption | exact WtOk.wok (by assumption))
abbrev FnP (K : PySem.W.Frag) (x : Str) (st : Stmt) (kws : List (Str × V)) (f : Addr) (fd : FuncData) (dvs : List V := []) : Prop := FunD K x x (defArgs st) (defBody st) (defScope st) dvs kws f fd
/-- what the top has written -/
structure Txt (K : PySem.W.Frag) (mg : Str → Option Value) (base : Heap) : Type where
  fd_law_bag : FuncData
  F_law_bag : FnP K "_law_bag" s_law_bag [] (He.ga K "_law_bag") fd_law_bag
  g_law_bag : mg "_law_bag" = some (.ref (He.ga K "_law_bag"))
  fd_law_text : FuncData
  F_law_text : FnP K "_law_text" s_law_text [] (He.ga K "_law_text") fd_law_text
  g_law_text : mg "_law_text" = some (.ref (He.ga K "_law_text"))
  fd_law_gcd : FuncData
  F_law_gcd : FnP K "_law_gcd" s_law_gcd [] (He.ga K "_law_gcd") fd_law_gcd
  g_law_gcd : mg "_law_gcd" = some (.ref (He.ga K "_law_gcd"))
  fd_law_part : FuncData
  F_law_part : FnP K "_law_part" s_law_part [] (He.ga K "_law_part") fd_law_part
  g_law_part : mg "_law_part" = some (.ref (He.ga K "_law_part"))
  fd_law_part_in : FuncData
  F_law_part_in : FnP K "_law_part_in" s_law_part_in [] (He.ga K "_law_part_in") fd_law_part_in
  g_law_part_in : mg "_law_part_in" = some (.ref (He.ga K "_law_part_in"))
  fd_law_get : FuncData
  F_law_get : FnP K "_law_get" s_law_get [] (He.ga K "_law_get") fd_law_get
  g_law_get : mg "_law_get" = some (.ref (He.ga K "_law_get"))
  fd_law_far : FuncData
  F_law_far : FnP K "_law_far" s_law_far [] (He.ga K "_law_far") fd_law_far
  g_law_far : mg "_law_far" = some (.ref (He.ga K "_law_far"))
  fd_law_number : FuncData
  F_law_number : FnP K "_law_number" s_law_number [] (He.ga K "_law_number") fd_law_number
  g_law_number : mg "_law_number" = some (.ref (He.ga K "_law_number"))
  fd_law_some_part : FuncData
  F_law_some_part : FnP K "_law_some_part" s_law_some_part [] (He.ga K "_law_some_part") fd_law_some_part
  g_law_some_part : mg "_law_some_part" = some (.ref (He.ga K "_law_some_part"))
  fd_law_pick : FuncData
  F_law_pick : FnP K "_law_pick" s_law_pick [] (He.ga K "_law_pick") fd_law_pick
  g_law_pick : mg "_law_pick" = some (.ref (He.ga K "_law_pick"))
  fd_law_bent_text : FuncData
  F_law_bent_text : FnP K "_law_bent_text" s_law_bent_text [] (He.ga K "_law_bent_text") fd_law_bent_text
  g_law_bent_text : mg "_law_bent_text" = some (.ref (He.ga K "_law_bent_text"))
  fd_law_same : FuncData
  F_law_same : FnP K "_law_same" s_law_same [] (He.ga K "_law_same") fd_law_same
  g_law_same : mg "_law_same" = some (.ref (He.ga K "_law_same"))
  fd_figures_in : FuncData
  F_figures_in : FnP K "figures_in" s_figures_in [] (He.ga K "figures_in") fd_figures_in [.int 200]
  g_figures_in : mg "figures_in" = some (.ref (He.ga K "figures_in"))
  fd_number_in : FuncData
  F_number_in : FnP K "number_in" s_number_in [] (He.ga K "number_in") fd_number_in [.int 200]
  g_number_in : mg "number_in" = some (.ref (He.ga K "number_in"))
  fd_is_whole : FuncData
  F_is_whole : FnP K "is_whole" s_is_whole [] (He.ga K "is_whole") fd_is_whole
  g_is_whole : mg "is_whole" = some (.ref (He.ga K "is_whole"))
  fd_common : FuncData
  F_common : FnP K "common" s_common [] (He.ga K "common") fd_common
  g_common : mg "common" = some (.ref (He.ga K "common"))
  fd_is_part : FuncData
  F_is_part : FnP K "is_part" s_is_part [] (He.ga K "is_part") fd_is_part
  g_is_part : mg "is_part" = some (.ref (He.ga K "is_part"))
  fd_part_text : FuncData
  F_part_text : FnP K "part_text" s_part_text [] (He.ga K "part_text") fd_part_text
  g_part_text : mg "part_text" = some (.ref (He.ga K "part_text"))
  fd_read_part : FuncData
  F_read_part : FnP K "read_part" s_read_part [] (He.ga K "read_part") fd_read_part
  g_read_part : mg "read_part" = some (.ref (He.ga K "read_part"))
  fd_law_read : FuncData
  F_law_read : FnP K "_law_read" s_law_read [] (He.ga K "_law_read") fd_law_read
  g_law_read : mg "_law_read" = some (.ref (He.ga K "_law_read"))
  fd_law : FuncData
  F_law : FnP K "law" s_law [] (He.ga K "law") fd_law
  g_law : mg "law" = some (.ref (He.ga K "law"))
  n_abs : mg "abs" = none
  n_all : mg "all" = none
  n_bool : mg "bool" = none
  n_dict : mg "dict" = none
  n_int : mg "int" = none
  n_isinstance : mg "isinstance" = none
  n_len : mg "len" = none
  n_list : mg "list" = none
  n_range : mg "range" = none
  n_str : mg "str" = none
  n_tuple : mg "tuple" = none
  n_zip : mg "zip" = none
  g_CutError : mg "CutError" = some (.ref (He.ga K "CutError"))
  g_BadText : mg "BadText" = some (.ref (He.ga K "BadText"))
  x_CutError : XClass K .v "CutError"
  fd_i_CutError : FuncData
  F_i_CutError : FunD K "__init__" "CutError.__init__" (defArgs si_CutError) (defBody si_CutError) (defScope si_CutError) [] [] (iniA K "CutError") fd_i_CutError
  x_BadText : XClass K .v "BadText"
  fd_i_BadText : FuncData
  F_i_BadText : FunD K "__init__" "BadText.__init__" (defArgs si_BadText) (defBody si_BadText) (defScope si_BadText) [.int 0] [] (iniA K "BadText") fd_i_BadText
  n_ValueError : mg "ValueError" = none
  xlost : LostOk K (.ref (He.ga K "BadText")) "at" ["BadText"]
theorem b_i_CutError {K : PySem.W.Frag} {mg : Str → Option Value} {base : Heap} (T : Txt K mg base) : Binds K T.fd_i_CutError ["self", "called"] [] := FunD.bindsN T.F_i_CutError fun _ _ _ _ _ _ us hl => match us, hl with | [_, _], _ => rfl
theorem sc_i_CutError : FnScope ["self", "called"] ["self", "called"] (defScope si_CutError) := ⟨rfl, rfl, rfl, by decide +kernel, rfl, by decide +kernel, by decide +kernel⟩
theorem ok_i_CutError {P : Program} {w : World} {K : PySem.W.Frag} {mg : Str → Option Value} {base : Heap} (T : Txt K mg base) : FnOk P w K mg base (L2.CX P w) 1 (iniA K "CutError") T.fd_i_CutError ["self", "called"] (spX K .v 1 (fun ws => [("called", ws.getD 0 .non)])) := FunD.ok T.F_i_CutError sc_i_CutError spX_len fun cdv A outer s H vs Q E hr h => ⟨_, pss_cons (ps_expr (pe_binit .v (by rfl) rfl T.n_ValueError (pa_cons (pe_var (i := 0) rfl (.inl rfl) (by decide) (by decide)) (pa_cons (pe_var (i := 1) rfl (.inl rfl) (by decide) (by decide)) pa_nil)) (by decide) (by decide))) (pss_one (ps_xs (pe_var (i := 0) rfl (.inl rfl) (by decide) (by decide)) (pe_var (i := 1) rfl (.inl rfl) (by decide) (by decide)))), base_read h⟩
theorem bq_i_BadText_ {K : PySem.W.Frag} {mg : Str → Option Value} {base : Heap} (T : Txt K mg base) : ∃ ds, Vals ([.int 0] : List V) ds ∧ Binds K T.fd_i_BadText ["self", "at"] ds := FunD.binds1 (ps := ["self", "at"]) T.F_i_BadText 1 0 (by decide) rfl fun _ _ _ _ _ _ _ us its h1 h2 => match us, its, h1, h2 with | [_], [_], _, _ => ⟨_, rfl, rfl⟩
noncomputable def bd_i_BadText {K : PySem.W.Frag} {mg : Str → Option Value} {base : Heap} (T : Txt K mg base) : List Value := (bq_i_BadText_ T).choose
theorem bq_i_BadText {K : PySem.W.Frag} {mg : Str → Option Value} {base : Heap} (T : Txt K mg base) : Vals ([.int 0] : List V) (bd_i_BadText T) ∧ Binds K T.fd_i_BadText ["self", "at"] (bd_i_BadText T) := (bq_i_BadText_ T).choose_spec
theorem sc_i_BadText : FnScope ["self", "at"] ["self", "at"] (defScope si_BadText) := ⟨rfl, rfl, rfl, by decide +kernel, rfl, by decide +kernel, by decide +kernel⟩
theorem ok_i_BadText {P : Program} {w : World} {K : PySem.W.Frag} {mg : Str → Option Value} {base : Heap} (T : Txt K mg base) : FnOk P w K mg base (L2.CX P w) 2 (iniA K "BadText") T.fd_i_BadText ["self", "at"] (spX K .v 1 (g1V "BadText" "at")) := FunD.ok T.F_i_BadText sc_i_BadText spX_len fun cdv A outer s H vs Q E hr h => ⟨_, pss_cons (ps_expr (pe_cfun (ok_i_CutError T) hr rfl T.g_CutError T.x_CutError.rd T.x_CutError.vl T.F_i_CutError.kp (b_i_CutError T) .nil noOut (pa_cons (pe_var (i := 0) rfl (.inl rfl) (by decide) (by decide)) (pa_cons pe_str pa_nil)))) (pss_one (ps_xs (pe_var (i := 0) rfl (.inl rfl) (by decide) (by decide)) (pe_var (i := 1) rfl (.inl rfl) (by decide) (by decide)))), over1_read (fun _ x => x.at_) h⟩
theorem b_law_bag {K : PySem.W.Frag} {mg : Str → Option Value} {base : Heap} (T : Txt K mg base) : Binds K T.fd_law_bag ["_law_script"] [] := FunD.bindsN T.F_law_bag fun _ _ _ _ _ _ us hl => match us, hl with | [_], _ => rfl
theorem b_law_text {K : PySem.W.Frag} {mg : Str → Option Value} {base : Heap} (T : Txt K mg base) : Binds K T.fd_law_text ["_law_part_now"] [] := FunD.bindsN T.F_law_text fun _ _ _ _ _ _ us hl => match us, hl with | [_], _ => rfl
theorem b_law_gcd {K : PySem.W.Frag} {mg : Str → Option Value} {base : Heap} (T : Txt K mg base) : Binds K T.fd_law_gcd ["_law_one", "_law_other"] [] := FunD.bindsN T.F_law_gcd fun _ _ _ _ _ _ us hl => match us, hl with | [_, _], _ => rfl
theorem b_law_part {K : PySem.W.Frag} {mg : Str → Option Value} {base : Heap} (T : Txt K mg base) : Binds K T.fd_law_part ["_law_above", "_law_below"] [] := FunD.bindsN T.F_law_part fun _ _ _ _ _ _ us hl => match us, hl with | [_, _], _ => rfl
theorem b_law_part_in {K : PySem.W.Frag} {mg : Str → Option Value} {base : Heap} (T : Txt K mg base) : Binds K T.fd_law_part_in ["_law_text_here"] [] := FunD.bindsN T.F_law_part_in fun _ _ _ _ _ _ us hl => match us, hl with | [_], _ => rfl
theorem b_law_get {K : PySem.W.Frag} {mg : Str → Option Value} {base : Heap} (T : Txt K mg base) : Binds K T.fd_law_get ["_law_bag_here", "_law_most"] [] := FunD.bindsN T.F_law_get fun _ _ _ _ _ _ us hl => match us, hl with | [_, _], _ => rfl
theorem b_law_far {K : PySem.W.Frag} {mg : Str → Option Value} {base : Heap} (T : Txt K mg base) : Binds K T.fd_law_far ["_law_bag_here", "_law_steps"] [] := FunD.bindsN T.F_law_far fun _ _ _ _ _ _ us hl => match us, hl with | [_, _], _ => rfl
theorem b_law_number {K : PySem.W.Frag} {mg : Str → Option Value} {base : Heap} (T : Txt K mg base) : Binds K T.fd_law_number ["_law_bag_here"] [] := FunD.bindsN T.F_law_number fun _ _ _ _ _ _ us hl => match us, hl with | [_], _ => rfl
theorem b_law_some_part {K : PySem.W.Frag} {mg : Str → Option Value} {base : Heap} (T : Txt K mg base) : Binds K T.fd_law_some_part ["_law_bag_here"] [] := FunD.bindsN T.F_law_some_part fun _ _ _ _ _ _ us hl => match us, hl with | [_], _ => rfl
theorem b_law_pick {K : PySem.W.Frag} {mg : Str → Option Value} {base : Heap} (T : Txt K mg base) : Binds K T.fd_law_pick ["_law_bag_here", "_law_some"] [] := FunD.bindsN T.F_law_pick fun _ _ _ _ _ _ us hl => match us, hl with | [_, _], _ => rfl
theorem b_law_bent_text {K : PySem.W.Frag} {mg : Str → Option Value} {base : Heap} (T : Txt K mg base) : Binds K T.fd_law_bent_text ["_law_bag_here", "_law_text_here"] [] := FunD.bindsN T.F_law_bent_text fun _ _ _ _ _ _ us hl => match us, hl with | [_, _], _ => rfl
theorem b_law_same {K : PySem.W.Frag} {mg : Str → Option Value} {base : Heap} (T : Txt K mg base) : Binds K T.fd_law_same ["_law_found", "_law_due"] [] := FunD.bindsN T.F_law_same fun _ _ _ _ _ _ us hl => match us, hl with | [_, _], _ => rfl
theorem bp_figures_in_1 {K : PySem.W.Frag} {mg : Str → Option Value} {base : Heap} (T : Txt K mg base) : ∃ ds, Vals ([.int 200] : List V) ds ∧ Binds K T.fd_figures_in ["text", "most"] ds := FunD.binds1 (ps := ["text", "most"]) T.F_figures_in 1 0 (by decide) rfl fun _ _ _ _ _ _ _ us its h1 h2 => match us, its, h1, h2 with | [_], [_], _, _ => ⟨_, rfl, rfl⟩
theorem bp_figures_in_2 {K : PySem.W.Frag} {mg : Str → Option Value} {base : Heap} (T : Txt K mg base) : ∃ ds, Vals ([] : List V) ds ∧ Binds K T.fd_figures_in ["text", "most"] ds := FunD.binds1 (ps := ["text", "most"]) T.F_figures_in 2 1 (by decide) rfl fun _ _ _ _ _ _ _ us its h1 h2 => match us, its, h1, h2 with | [_, _], [_], _, _ => ⟨_, rfl, rfl⟩
theorem bp_number_in_1 {K : PySem.W.Frag} {mg : Str → Option Value} {base : Heap} (T : Txt K mg base) : ∃ ds, Vals ([.int 200] : List V) ds ∧ Binds K T.fd_number_in ["text", "most"] ds := FunD.binds1 (ps := ["text", "most"]) T.F_number_in 1 0 (by decide) rfl fun _ _ _ _ _ _ _ us its h1 h2 => match us, its, h1, h2 with | [_], [_], _, _ => ⟨_, rfl, rfl⟩
theorem b_is_whole {K : PySem.W.Frag} {mg : Str → Option Value} {base : Heap} (T : Txt K mg base) : Binds K T.fd_is_whole ["thing"] [] := FunD.bindsN T.F_is_whole fun _ _ _ _ _ _ us hl => match us, hl with | [_], _ => rfl
theorem b_common {K : PySem.W.Frag} {mg : Str → Option Value} {base : Heap} (T : Txt K mg base) : Binds K T.fd_common ["one", "other"] [] := FunD.bindsN T.F_common fun _ _ _ _ _ _ us hl => match us, hl with | [_, _], _ => rfl
theorem b_is_part {K : PySem.W.Frag} {mg : Str → Option Value} {base : Heap} (T : Txt K mg base) : Binds K T.fd_is_part ["thing"] [] := FunD.bindsN T.F_is_part fun _ _ _ _ _ _ us hl => match us, hl with | [_], _ => rfl
theorem b_part_text {K : PySem.W.Frag} {mg : Str → Option Value} {base : Heap} (T : Txt K mg base) : Binds K T.fd_part_text ["one"] [] := FunD.bindsN T.F_part_text fun _ _ _ _ _ _ us hl => match us, hl with | [_], _ => rfl
theorem b_read_part {K : PySem.W.Frag} {mg : Str → Option Value} {base : Heap} (T : Txt K mg base) : Binds K T.fd_read_part ["text"] [] := FunD.bindsN T.F_read_part fun _ _ _ _ _ _ us hl => match us, hl with | [_], _ => rfl
theorem b_law_read {K : PySem.W.Frag} {mg : Str → Option Value} {base : Heap} (T : Txt K mg base) : Binds K T.fd_law_read ["_law_text_here"] [] := FunD.bindsN T.F_law_read fun _ _ _ _ _ _ us hl => match us, hl with | [_], _ => rfl
abbrev tbD (K : PySem.W.Frag) : List (Addr × Str) := []
def sp_law (K : PySem.W.Frag) : DSp := sp_lawT (tbls (tbD K))
def sp_law_bag : DSp := fun ds cs P _ => ∃ ns : List Int, ds = [.lst (ns.map D.int)] ∧ ∀ p b, p ∉ adr cs → BagOk b → P (.opq (.ref p)) ((p, b) :: cs)
theorem sc_law_bag : FnScope ["_law_script"] ["_law_script"] (defScope s_law_bag) := ⟨rfl, rfl, rfl, by decide +kernel, rfl, by decide +kernel, by decide +kernel⟩
theorem ok_law_bag {P : Program} {w : World} {K : PySem.W.Frag} {mg : Str → Option Value} {base : Heap} (T : Txt K mg base) : FnOk P w K mg base (L2.CX P w) 1 (He.ga K "_law_bag") T.fd_law_bag ["_law_script"] (spL K 1 sp_law_bag) := by
  apply ok_def (k := 0) T.F_law_bag sc_law_bag
  case hb =>
    intro cdv A outer s H E hr
    exact (dss_one (ds_ret (d_lstM (da_cons (d_callTy call_list_of adq_list rfl T.n_list (by decide +kernel) (da_cons (d_slice sl_list adq_slL (d_var 0) do_none (do_some d_int)) da_nil)) (da_cons d_int (da_cons d_int (da_cons (d_add d_int (d_callB call_len_seq adq_len rfl T.n_len (by decide +kernel) (da_cons (d_slice sl_list adq_slL (d_var 0) do_none (do_some d_int)) da_nil))) (da_cons d_int da_nil))))))))
  case hsp =>
    skip
    rintro ds cs Q Z ⟨ns, rfl, h⟩ _
    show ∀ p, p ∉ adr cs → Q (.opq (.ref p)) ((p, .lst [.lst (DL.cutD (ns.map D.int) none (some 63)), .int 0, .int 0, .int (9103 + ((DL.cutD (ns.map D.int) none (some 63)).length : Int)), .int 0]) :: cs)
    intro p hp
    have e : DL.cutD (ns.map D.int) none (some 63) = (ns.take (min 63 ns.length)).map D.int := by
      unfold DL.cutD
      simp [HT.sIx, List.map_take]
    have l : (DL.cutD (ns.map D.int) none (some 63)).length ≤ 63 := by
      rw [e, List.length_map, List.length_take]; omega
    refine h p _ hp ⟨ns.take (min 63 ns.length), 0, 0, 9103 + ((DL.cutD (ns.map D.int) none (some 63)).length : Int), 0, by rw [← e] <;> rfl, by omega, by omega, by omega⟩
def sp_law_text : DSp := fun ds cs P _ => ∃ r : Rat, ds = [dR r] ∧ Sz 1900 r ∧ P (.str (txtR r)) cs
theorem r_law_text {r : Rat} {cs : Cs} {P : DP} {Z : XZ} (hs : Sz 1900 r) (h : P (.str (txtR r)) cs) : sp_law_text [dR r] cs P Z := ⟨r, rfl, hs, h⟩
theorem sc_law_text : FnScope ["_law_part_now"] ["_law_part_now"] (defScope s_law_text) := ⟨rfl, rfl, rfl, by decide +kernel, rfl, by decide +kernel, by decide +kernel⟩
theorem ok_law_text {P : Program} {w : World} {K : PySem.W.Frag} {mg : Str → Option Value} {base : Heap} (T : Txt K mg base) : FnOk P w K mg base (L2.CX P w) 1 (He.ga K "_law_text") T.fd_law_text ["_law_part_now"] (spL K 1 sp_law_text) := by
  apply ok_def (k := 0) T.F_law_text sc_law_text
  case hb =>
    intro cdv A outer s H E hr
    exact (dss_one (ds_ret (d_if (dt_eq hr.units (d_sub_ix (d_var 0) d_int) d_int) (d_callTy call_str_int adq_strI rfl T.n_str (by decide +kernel) (da_cons (d_sub_ix (d_var 0) d_int) da_nil)) (d_catS (d_catS (d_callTy call_str_int adq_strI rfl T.n_str (by decide +kernel) (da_cons (d_sub_ix (d_var 0) d_int) da_nil)) d_str) (d_callTy call_str_int adq_strI rfl T.n_str (by decide +kernel) (da_cons (d_sub_ix (d_var 0) d_int) da_nil))))))
  case hsp =>
    skip
    rintro ds cs Q Z ⟨r, rfl, hs, h⟩ _
    have hd : ((r.den : Int)).natAbs < 2 ^ 1900 := by rw [Int.natAbs_natCast]; exact hs.2
    have l1 := log_of hs.1 (Nat.le_refl _)
    have l2 := log_of hd (Nat.le_refl _)
    have n1 := numT_sz hs.1
    have n2 := numT_sz hd
    unfold txtR at h
    show (_ : WS) (finD Q Z) [some _] cs
    walk_at "GO"
    by_cases hd : (r.den : Int) = 1
    · refine r_pos hd ?_
      rw [if_pos hd] at h
      walk_at "GO"
      exact ⟨l1, h⟩
    · refine r_neg_ hd ?_
      rw [if_neg hd] at h
      walk_at "GO"
      refine ⟨l1, ?_⟩
      walk_at "GO"
      refine r_catS (z := numT r.num) (t := "/") (by show _ + 1 ≤ _; omega) ?_
      walk_at "GO"
      refine ⟨l2, ?_⟩
      walk_at "GO"
      refine r_catS (z := numT r.num ++ "/") (t := numT (r.den : Int)) (by rw [TL.len_tl, TL.tl_append, List.length_append, ← TL.len_tl, ← TL.len_tl]; show _ + 1 + _ ≤ _; omega) ?_
      exact h
local macro_rules | `(tactic| walk_at "cl") => `(tactic| (first | ((with_reducible apply r_law_text); (walk_at "sz"))))
def sp_law_gcd : DSp := fun ds cs P _ => ∃ a b : Nat, ds = [.int (a : Int), .int (b : Int)] ∧ P (.int (Nat.gcd a b : Int)) cs
theorem sc_law_gcd : FnScope ["_law_one", "_law_other"] ["_law_one", "_law_other"] (defScope s_law_gcd) := ⟨rfl, rfl, rfl, by decide +kernel, rfl, by decide +kernel, by decide +kernel⟩
theorem ok_law_gcd {P : Program} {w : World} {K : PySem.W.Frag} {mg : Str → Option Value} {base : Heap} (T : Txt K mg base) : FnOk P w K mg base (L2.CX P w) 1 (He.ga K "_law_gcd") T.fd_law_gcd ["_law_one", "_law_other"] (spL K 2 sp_law_gcd) := by
  apply ok_def (k := 0) T.F_law_gcd sc_law_gcd
  case hb =>
    intro cdv A outer s H E hr
    exact (dss_cons (ds_while passD (dt_gt (d_var 1) d_int) (dss_one (ds_par (i := 0) (j := 1) rfl sc_law_gcd.nd rfl rfl (by decide) rfl rfl (da_cons (d_var 1) (da_cons (d_mod (d_var 0) (d_var 1)) da_nil)))))
      (dss_one (ds_ret (d_var 0))))
  case hsp =>
    skip
    rintro ds cs Q Z ⟨a, b, rfl, h⟩ _
    show (_ : WS) (finD Q Z) [some _, some _] cs
    walk_at "go"
    refine r_while (fun m ρ cs' => ∃ a' b' : Nat, ρ = [some (.int (a' : Int)), some (.int (b' : Int))] ∧ m = b' ∧ cs' = cs ∧ Nat.gcd a' b' = Nat.gcd a b) ⟨b, a, b, rfl, rfl, rfl, rfl⟩ ?_
    rintro m ρ cs' N ⟨a', b', rfl, hm, rfl, hg⟩ hN
    walk_at "go"
    refine ⟨fun hk => ?_, fun hk => ?_⟩
    · have hb : (b' : Int) ≠ 0 := by have := decT hk; omega
      have hb0 : (0 : Int) < b' := by omega
      walk_at "go"
      refine hN (a' % b') _ _ (by rw [hm]; exact Nat.mod_lt _ (by omega)) ⟨b', a' % b', rfl, rfl, rfl, ?_⟩
      rw [← hg, Nat.gcd_comm b', ← Nat.gcd_rec, Nat.gcd_comm]
    · have hb : (b' : Int) = 0 := by have := decF hk; omega
      have hb0 : b' = 0 := by omega
      rw [hb0]
      walk_at "go"
      rw [← hg, hb0, Nat.gcd_zero_right] at h
      exact h
def sp_law_part : DSp := fun ds cs P _ => ∃ a b : Int, ds = [.int a, .int b] ∧ b ≠ 0 ∧ b.natAbs < 2 ^ 9000 ∧ P (dR (Rat.divInt a b)) cs
theorem r_law_part {a b : Int} {cs : Cs} {P : DP} {Z : XZ} (b0 : b ≠ 0) (hb : b.natAbs < 2 ^ 9000) (h : P (dR (Rat.divInt a b)) cs) : sp_law_part [.int a, .int b] cs P Z := ⟨a, b, rfl, b0, hb, h⟩
theorem sc_law_part : FnScope ["_law_above", "_law_below", "_law_by"] ["_law_above", "_law_below"] (defScope s_law_part) := ⟨rfl, rfl, rfl, by decide +kernel, rfl, by decide +kernel, by decide +kernel⟩
theorem ok_law_part {P : Program} {w : World} {K : PySem.W.Frag} {mg : Str → Option Value} {base : Heap} (T : Txt K mg base) : FnOk P w K mg base (L2.CX P w) 2 (He.ga K "_law_part") T.fd_law_part ["_law_above", "_law_below"] (spL K 2 sp_law_part) := by
  apply ok_def (k := 1) T.F_law_part sc_law_part
  case hb =>
    intro cdv A outer s H E hr
    exact (dss_cons (ds_if (dt_lt (d_var 1) d_int) (dss_one (ds_par (i := 0) (j := 1) rfl sc_law_part.nd rfl rfl (by decide) rfl rfl (da_cons (d_sub d_int (d_var 0)) (da_cons (d_sub d_int (d_var 1)) da_nil)))) dss_nil)
      (dss_cons (ds_set (i := 2) sc_law_part.nd rfl (Or.inl rfl) (d_callN (ok_law_gcd T) (hr.mono (by decide)) rfl T.g_law_gcd T.F_law_gcd.kp (b_law_gcd T) takesD (da_cons (d_callB call_abs adq_abs rfl T.n_abs (by decide +kernel) (da_cons (d_var 0) da_nil)) (da_cons (d_var 1) da_nil))))
      (dss_one (ds_ret (d_tup (da_cons (d_fdiv (d_var 0) (d_var 2)) (da_cons (d_fdiv (d_var 1) (d_var 2)) da_nil)))))))
  case hsp =>
    skip
    rintro ds cs Q Z ⟨a, b, rfl, hb, hs, h⟩ _
    show (_ : WS) (finD Q Z) [some _, some _, none] cs
    refine r_key (N := fun ρ' cs' => ∃ a' b' : Int, ρ' = [some (.int a'), some (.int b'), none] ∧ cs' = cs ∧ 0 < b' ∧ b'.natAbs < 2 ^ 9000 ∧ Rat.divInt a' b' = Rat.divInt a b) ?_ (fun nx key => ?_)
    · rintro ρ' cs' ⟨a', b', rfl, rfl, hp, hz, he⟩
      walk_at "go"
      rw [abs_nat]
      have hn : b' = (b'.natAbs : Int) := by omega
      refine ⟨a'.natAbs, b'.natAbs, by rw [← hn], ?_⟩
      have g := gcd_ok (a := a'.natAbs) (b := b'.natAbs) (by omega) hz
      obtain ⟨e1, e2⟩ := part_pos a' b' hp
      walk_at "go"
      show Q (.tup [.int (a' / _), .int (b' / _)]) cs'
      rw [e1, e2, he]
      exact h
    · walk_at "go"
      refine ⟨fun hk2 => ?_, fun hk2 => ?_⟩
      · have hlt := decT hk2
        walk_at "go"
        exact key _ _ ⟨0 - a, 0 - b, rfl, rfl, by omega, by rw [Int.zero_sub, Int.natAbs_neg]; exact hs, by rw [Int.zero_sub, Int.zero_sub]; exact part_neg a b⟩
      · have hlt := decF hk2
        walk_at "go"
        exact key _ _ ⟨a, b, rfl, rfl, by omega, hs, rfl⟩
local macro_rules | `(tactic| walk_at "cl") => `(tactic| (first | ((with_reducible apply r_law_part); (walk_at "in"); (walk_at "p9"))))
def sp_law_part_in : DSp := fun ds cs P _ => ∃ z : Str, ds = [.str z] ∧ z.length ≤ 90000 ∧ (∀ r, IsRT z r → P (dR r) cs) ∧ ((∀ r, ¬ IsRT z r) → P .non cs)
theorem sc_law_part_in : FnScope ["_law_text_here", "_law_above", "_law_mark", "_law_below", "_law_figures", "_law_word", "_law_sign", "_law_found"] ["_law_text_here"] (defScope s_law_part_in) := ⟨rfl, rfl, rfl, by decide +kernel, rfl, by decide +kernel, by decide +kernel⟩
theorem ok_law_part_in {P : Program} {w : World} {K : PySem.W.Frag} {mg : Str → Option Value} {base : Heap} (T : Txt K mg base) : FnOk P w K mg base (L2.CX P w) 3 (He.ga K "_law_part_in") T.fd_law_part_in ["_law_text_here"] (spL K 1 sp_law_part_in) := by
  apply ok_def (k := 2) T.F_law_part_in sc_law_part_in
  case hb =>
    intro cdv A outer s H E hr
    exact (dss_cons (ds_asg (d_partn (d_var 0) d_str) (dg_tup (n := 3) rfl (dgs_cons (dg_name (i := 1) sc_law_part_in.nd rfl (Or.inl rfl)) (dgs_cons (dg_name (i := 2) sc_law_part_in.nd rfl (Or.inl rfl)) (dgs_cons (dg_name (i := 3) sc_law_part_in.nd rfl (Or.inl rfl)) dgs_nil)))))
      (dss_cons (ds_set (i := 4) sc_law_part_in.nd rfl (Or.inl rfl) (d_lst (da_cons (d_slice sl_str adq_slS (d_var 1) (do_some (d_callTy call_int1 adq_intB rfl T.n_int (by decide +kernel) (da_cons (d_eq hr.units (d_slice sl_str adq_slS (d_var 1) do_none (do_some d_int)) d_str) da_nil))) do_none) (da_cons (d_if (dt_eq hr.units (d_var 2) d_str) (d_var 3) d_str) da_nil))))
      (dss_cons (ds_for passD rfl (di_list (d_var 4)) (dg_name (i := 5) sc_law_part_in.nd rfl (Or.inl rfl)) (dss_one (ds_if (dt_w (dw_or (dt_not (dt_chain_le_le d_int (d_callB call_len_str adq_lenS rfl T.n_len (by decide +kernel) (da_cons (d_var 5) da_nil)) d_int)) (dw_or1 (dt_not (dt_val (d_callB (cr_all rfl) adq_all rfl T.n_all (by decide +kernel) (da_cons (d_lc rfl sc_law_part_in.nd (di_str (d_var 5)) (blkOk_by (own := [("_law_sign", 6)]) (N := ["_law_text_here", "_law_above", "_law_mark", "_law_below", "_law_figures", "_law_word", "_law_sign", "_law_found"]) (sc := defScope s_law_part_in) (by decide +kernel)) (gok_name (by decide)) (fun _ _ _ _ _ => (pg_name (i := 6) sc_law_part_in.nd rfl (Or.inl rfl))) (fun _ _ _ _ _ => dts_nil) (fun _ _ _ _ _ => (d_inS (d_var 6) d_str))) da_nil))))))) (dss_one (ds_ret d_non)) dss_nil)))
      (dss_cons (ds_if (dt_eq hr.units (d_callTy call_int_str adq_intS rfl T.n_int (by decide +kernel) (da_cons (d_sub_ix (d_var 4) d_int) da_nil)) d_int) (dss_one (ds_ret d_non)) dss_nil)
      (dss_cons (ds_set (i := 7) sc_law_part_in.nd rfl (Or.inl rfl) (d_callN (ok_law_part T) (hr.mono (by decide)) rfl T.g_law_part T.F_law_part.kp (b_law_part T) takesD (da_cons (d_mul (d_callTy call_int_str adq_intS rfl T.n_int (by decide +kernel) (da_cons (d_sub_ix (d_var 4) d_int) da_nil)) (d_sub d_int (d_mul d_int (d_callTy call_int1 adq_intB rfl T.n_int (by decide +kernel) (da_cons (d_eq hr.units (d_slice sl_str adq_slS (d_var 1) do_none (do_some d_int)) d_str) da_nil))))) (da_cons (d_callTy call_int_str adq_intS rfl T.n_int (by decide +kernel) (da_cons (d_sub_ix (d_var 4) d_int) da_nil)) da_nil))))
      (dss_one (ds_ret (d_if (dt_eq hr.units (d_callN (ok_law_text T) (hr.mono (by decide)) rfl T.g_law_text T.F_law_text.kp (b_law_text T) takesD (da_cons (d_var 7) da_nil)) (d_var 0)) (d_var 7) d_non))))))))
  case hsp =>
    skip
    rintro ds cs Q Z ⟨z, rfl, hzl, h, hn⟩ _
    show (_ : WS) (finD Q Z) [some _, none, none, none, none, none, none, none] cs
    walk_at "GO"
    refine r_partn (by decide) (by omega) ?_
    refine r_gT rfl ?_
    refine r_gCn ?_
    refine r_gN ?_
    refine r_gCn ?_
    refine r_gN ?_
    refine r_gCn ?_
    refine r_gN ?_
    refine r_gNl ?_
    refine r_key (fun ρ cs' => ∃ (c2 c3 c5 c6 c7 : Option D) (a w0 w1 : Str) (ng : Bool), ρ = [some (.str z), some (.str a), c2, c3, some (.lst [.str w0, .str w1]), c5, c6, c7] ∧ (decide (cutS a none (some 1) = Str.ofString "-") = ng) ∧ a.length ≤ 90000 ∧ w0.length ≤ 90000 ∧ w1.length ≤ 90000 ∧ (∀ r, IsRT z r → OkW w0 ∧ OkW w1 ∧ r.num = (1 - 2 * (if ng then 1 else 0)) * ((NumText.digitsVal (TL.tl w0) : Nat) : Int) ∧ r.den = NumText.digitsVal (TL.tl w1)) ∧ cs = cs') ?_ (fun nx key => ?_)
    case refine_2 =>
      by_cases hs : 47 ∈ TL.tl z
      · obtain ⟨a, b, rfl, ha⟩ := cut_slash z hs
        rw [TL.partition_app slash ha]
        dsimp only
        have hal : a.length ≤ 90000 ∧ b.length ≤ 90000 := by
          rw [TL.len_tl, TL.tl_append, List.length_append, TL.tl_append, List.length_append] at hzl
          have q1 := TL.len_tl a
          have q2 := TL.len_tl b
          omega
        have hR : ∀ r, IsRT (a ++ "/" ++ b) r → NumF a r.num 200 ∧ FigOk (TL.tl b) 200 ∧ NumText.digitsVal (TL.tl b) = r.den := fun r hr => rt_some ha hr
        walk_at "GO"
        refine r_slS (by omega) ?_
        walk_at "GO"
        generalize hng : decide (cutS a none (some 1) = Str.ofString "-") = ng
        refine r_intB ?_
        walk_at "GO"
        refine r_slS (by omega) ?_
        walk_at "GO"
        exact key _ _ ⟨_, _, _, _, _, a, cutS a (some (if ng = true then 1 else 0)) none, b, ng, rfl, ⟨hng, hal.1, Nat.le_trans (cutS_len _ _ _) hal.1, hal.2, fun r hr => by
          obtain ⟨h1, h2, h3⟩ := hR r hr
          obtain ⟨g1, g2⟩ := w0_spec hng h1
          exact ⟨g1, okW_fig rfl h2, g2, h3.symm⟩, rfl⟩⟩
      · rw [TL.partition_none slash hs]
        dsimp only
        have hR : ∀ r, IsRT z r → (r.den : Int) = 1 ∧ NumF z r.num 200 := fun r hr => rt_none hs hr
        walk_at "GO"
        refine r_slS (by omega) ?_
        walk_at "GO"
        generalize hng : decide (cutS z none (some 1) = Str.ofString "-") = ng
        refine r_intB ?_
        walk_at "GO"
        refine r_slS (by omega) ?_
        walk_at "GO"
        refine r_neg_ (show ¬ Str.empty = Str.ofString "/" by decide +kernel) ?_
        walk_at "GO"
        exact key _ _ ⟨_, _, _, _, _, z, cutS z (some (if ng = true then 1 else 0)) none, Str.ofString "1", ng, rfl, ⟨hng, hzl, Nat.le_trans (cutS_len _ _ _) hzl, by decide +kernel, fun r hr => by
          obtain ⟨h1, h2⟩ := hR r hr
          obtain ⟨g1, g2⟩ := w0_spec hng h2
          refine ⟨g1, ⟨by rw [one_tl]; intro c hc; rw [List.mem_singleton.mp hc]; decide, by decide +kernel, by decide +kernel⟩, g2, ?_⟩
          rw [one_tl]
          exact Int.ofNat.inj h1, rfl⟩⟩
    rintro ρ cs1 ⟨c2, c3, c5, c6, c7, a, w0, w1, ng, rfl, ⟨hng, hal, h0l, h1l, hr, rfl⟩⟩
    walk_at "GO"
    refine r_loopE (l := [w0, w1]) (g := D.str) (fun i ρ cs' => ∃ (c2 c3 c5 c6 c7 : Option D), ρ = [some (.str z), some (.str a), c2, c3, some (.lst [.str w0, .str w1]), c5, c6, c7] ∧ (∀ w ∈ [w0, w1].take i, OkW w) ∧ cs = cs') rfl ⟨_, _, _, _, _, rfl, ⟨fun w hw => absurd hw List.not_mem_nil, rfl⟩⟩ ?_ ?_
    · rintro i w ρ cs1 N hw1 ⟨c2, c3, c5, c6, c7, rfl, ⟨hok, rfl⟩⟩ hN
      have hw := List.mem_of_getElem? hw1
      have hwl : w.length ≤ 90000 := by
        rcases List.mem_cons.mp hw with e | hw
        · rw [e]; exact h0l
        · rw [List.mem_singleton.mp hw]; exact h1l
      have hrw : ∀ r, IsRT z r → OkW w := fun r h2 => by
        obtain ⟨g1, g2, _⟩ := hr r h2
        rcases List.mem_cons.mp hw with e | hw
        · rw [e]; exact g1
        · rw [List.mem_singleton.mp hw]; exact g2
      have hlen : w.length = (TL.tl w).length := TL.len_tl w
      walk_at "GO"
      refine r_lenS (by omega) ?_
      walk_at "GO"
      by_cases h1 : 1 ≤ w.length
      case neg =>
        rw [decide_eq_false (show ¬ (1 : Int) ≤ (w.length : Int) by omega)]
        walk_at "GO"
        exact hn fun r h2 => h1 (hrw r h2).2.1
      rw [decide_eq_true (show (1 : Int) ≤ (w.length : Int) by omega)]
      walk_at "GO"
      by_cases h2 : w.length ≤ 200
      case neg =>
        rw [decide_eq_false (show ¬ (w.length : Int) ≤ 200 by omega)]
        walk_at "GO"
        exact hn fun r h3 => h2 (hrw r h3).2.2
      rw [decide_eq_true (show (w.length : Int) ≤ 200 by omega)]
      walk_at "GO"
      refine ⟨by rw [List.length_map]; show w.cps.toList.length ≤ _; have : w.cps.toList.length = (TL.tl w).length := rfl; omega, ?_⟩
      refine r_cm (fun c => .bl (decide (c ∈ (Str.ofString "0123456789").cps.toList))) (fun c N N' hm2 hN => ?_) ?_
      · walk_at "GO"
        exact hN
      walk_at "GO"
      refine r_all (ns := w.cps.toList.map fun c => decide (c ∈ (Str.ofString "0123456789").cps.toList)) (by rw [show (w.cps.toList.map fun c => D.bl (decide (c ∈ (Str.ofString "0123456789").cps.toList))) = ((w.cps.toList.map fun c => decide (c ∈ (Str.ofString "0123456789").cps.toList)).map D.bl) by rw [List.map_map]; rfl]; exact blsOf_map _) ?_
      have hall : (w.cps.toList.map fun c => decide (c ∈ (Str.ofString "0123456789").cps.toList)).all id = true ↔ NumText.AllDigits (TL.tl w) := by
        rw [List.all_eq_true]
        constructor
        · intro a c hc
          exact (dig_iff c).mp (of_decide_eq_true (a _ (List.mem_map.mpr ⟨c, hc, rfl⟩)))
        · intro a y hy
          obtain ⟨c, hc, rfl⟩ := List.mem_map.mp hy
          exact decide_eq_true ((dig_iff c).mpr (a c hc))
      generalize (w.cps.toList.map fun c => decide (c ∈ (Str.ofString "0123456789").cps.toList)).all id = al at hall
      cases al with
      | false =>
        walk_at "GO"
        exact hn fun r h3 => by have := hall.mpr (hrw r h3).1; cases this
      | true =>
        walk_at "GO"
        refine hN _ _ ⟨_, _, _, _, _, rfl, ⟨fun v hv => ?_, rfl⟩⟩
        rw [List.take_add_one, hw1] at hv
        rcases List.mem_append.mp hv with hv | hv
        · exact hok v hv
        · rw [show v = w by simpa using hv]
          exact ⟨hall.mp rfl, h1, h2⟩
    rintro ρ cs1 ⟨c2, c3, c5, c6, c7, rfl, ⟨hok, rfl⟩⟩
    have o0 : OkW w0 := hok w0 (by simp)
    have o1 : OkW w1 := hok w1 (by simp)
    clear hok
    have ne0 : TL.tl w0 ≠ [] := fun e => by have := o0.2.1; rw [TL.len_tl, e] at this; exact absurd this (by decide)
    have ne1 : TL.tl w1 ≠ [] := fun e => by have := o1.2.1; rw [TL.len_tl, e] at this; exact absurd this (by decide)
    have b0 : NumText.digitsVal (TL.tl w0) < 10 ^ 200 := Nat.lt_of_lt_of_le (val_lt o0.1) (Nat.pow_le_pow_right (by decide) (by rw [← TL.len_tl]; exact o0.2.2))
    have b1 : NumText.digitsVal (TL.tl w1) < 10 ^ 200 := Nat.lt_of_lt_of_le (val_lt o1.1) (Nat.pow_le_pow_right (by decide) (by rw [← TL.len_tl]; exact o1.2.2))
    have l0 := o0.2.2
    have l1 := o1.2.2
    have i0 := intText_digits o0.1 ne0 (show w0.length ≤ 4300 by omega)
    have i1 := intText_digits o1.1 ne1 (show w1.length ≤ 4300 by omega)
    generalize NumText.digitsVal (TL.tl w0) = k0 at b0 i0 hr
    generalize NumText.digitsVal (TL.tl w1) = k1 at b1 i1 hr
    have hden : ∀ r, IsRT z r → r.den = k1 := fun r h2 => (hr r h2).2.2.2
    have hnum : ∀ r, IsRT z r → r.num = (1 - 2 * (if ng = true then 1 else 0)) * (k0 : Int) := fun r h2 => (hr r h2).2.2.1
    clear hr
    walk_at "GO"
    refine r_intS i1 (by omega) ?_
    walk_at "GO"
    by_cases h0 : k1 = 0
    · refine r_pos (by omega) ?_
      walk_at "GO"
      exact hn fun r h2 => r.den_nz ((hden r h2).trans h0)
    refine r_neg_ (by omega) ?_
    walk_at "GO"
    refine r_intS i0 (by omega) ?_
    walk_at "GO"
    refine r_slS (by omega) ?_
    walk_at "GO"
    rw [hng]
    refine r_intB ?_
    walk_at "GO"
    refine r_intS i1 (by omega) ?_
    walk_at "GO"
    have hsg : (k0 : Int) * (1 - 2 * (if ng = true then 1 else 0)) = (1 - 2 * (if ng = true then 1 else 0)) * (k0 : Int) := Int.mul_comm _ _
    have ha : ((k0 : Int) * (1 - 2 * (if ng = true then 1 else 0))).natAbs < 10 ^ 200 := by
      cases ng with
      | true => show ((k0 : Int) * (1 - 2 * 1)).natAbs < _; rw [show (k0 : Int) * (1 - 2 * 1) = -(k0 : Int) by omega, Int.natAbs_neg, Int.natAbs_natCast]; exact b0
      | false => show ((k0 : Int) * (1 - 2 * 0)).natAbs < _; rw [show (k0 : Int) * (1 - 2 * 0) = (k0 : Int) by omega, Int.natAbs_natCast]; exact b0
    have hf := frac_fig ha b1 h0
    have h9 : ((k1 : Int)).natAbs < 2 ^ 9000 := by
      rw [Int.natAbs_natCast]
      exact Nat.lt_of_lt_of_le (Nat.lt_trans b1 p200) (Nat.pow_le_pow_right (by decide) (by decide))
    have hsz := hf.sz
    generalize hA : (k0 : Int) * (1 - 2 * (if ng = true then 1 else 0)) = A at ha hf hsz hsg
    refine r_law_part (by omega) h9 ?_
    walk_at "GO"
    by_cases he : txtR (Rat.divInt A (k1 : Int)) = z
    · refine r_pos he ?_
      walk_at "GO"
      exact h _ ⟨hf, he.symm⟩
    · refine r_neg_ he ?_
      walk_at "GO"
      refine hn fun r h2 => he ?_
      rw [h2.2]
      congr 1
      rw [show A = r.num from hsg.trans (hnum r h2).symm, show (k1 : Int) = r.den by rw [hden r h2]]
      exact Rat.num_divInt_den r
def sp_law_get : DSp := fun ds cs P _ => ∃ (p : Addr) (most : Int), ds = [.opq (.ref p), .int most] ∧ 0 < most ∧ most < 2 ^ 60 ∧ BagIn p cs ∧ ∀ r cs', 0 ≤ r → r < most → BagStep p cs cs' → P (.int r) cs'
theorem r_law_get {p : Addr} {m : Int} {cs : Cs} {P : DP} {Z : XZ} (m0 : 0 < m) (m1 : m < 2 ^ 60) (hb : BagIn p cs) (h : ∀ r cs', 0 ≤ r → r < m → BagStep p cs cs' → P (.int r) cs') : sp_law_get [.opq (.ref p), .int m] cs P Z := ⟨p, m, rfl, m0, m1, hb, h⟩
theorem sc_law_get : FnScope ["_law_bag_here", "_law_most", "_law_cell", "_law_got", "_law_before"] ["_law_bag_here", "_law_most"] (defScope s_law_get) := ⟨rfl, rfl, rfl, by decide +kernel, rfl, by decide +kernel, by decide +kernel⟩
theorem ok_law_get {P : Program} {w : World} {K : PySem.W.Frag} {mg : Str → Option Value} {base : Heap} (T : Txt K mg base) : FnOk P w K mg base (L2.CX P w) 1 (He.ga K "_law_get") T.fd_law_get ["_law_bag_here", "_law_most"] (spL K 2 sp_law_get) := by
  apply ok_def (k := 0) T.F_law_get sc_law_get
  case hb =>
    intro cdv A outer s H E hr
    exact (dss_cons (ds_if (dt_w (dw_and (dt_lt (d_ixM (d_var 0) d_int) (d_var 1)) (dw_and1 (dt_lt (d_ixM (d_var 0) d_int) (d_callB call_len_seq adq_len rfl T.n_len (by decide +kernel) (da_cons (d_ixM (d_var 0) d_int) da_nil)))))) (dss_cons (ds_set (i := 2) sc_law_get.nd rfl (Or.inl rfl) (d_sub_ix (d_ixM (d_var 0) d_int) (d_ixM (d_var 0) d_int)))
      (dss_cons (ds_setix (d_add (d_ixM (d_var 0) d_int) d_int) (d_var 0) d_int)
      (dss_cons (ds_setix (d_if (dt_ge (d_var 2) (d_pow d_int d_int)) (d_sub (d_var 2) (d_pow d_int d_int)) d_int) (d_var 0) d_int)
      (dss_one (ds_setix (d_mod (d_add (d_add (d_mul (d_ixM (d_var 0) d_int) d_int) (d_mul (d_var 2) d_int)) (d_mul d_int (d_ixM (d_var 0) d_int))) d_int) (d_var 0) d_int))))) dss_nil)
      (dss_cons (ds_if (dt_ge (d_ixM (d_var 0) d_int) (d_var 1)) (dss_cons (ds_set (i := 3) sc_law_get.nd rfl (Or.inl rfl) (d_mod (d_ixM (d_var 0) d_int) (d_var 1)))
      (dss_cons (ds_setix (d_fdiv (d_ixM (d_var 0) d_int) (d_var 1)) (d_var 0) d_int)
      (dss_one (ds_ret (d_var 3))))) dss_nil)
      (dss_cons (ds_setix (d_add (d_ixM (d_var 0) d_int) d_int) (d_var 0) d_int)
      (dss_cons (ds_set (i := 4) sc_law_get.nd rfl (Or.inl rfl) (d_ixM (d_var 0) d_int))
      (dss_cons (ds_setix (d_mod (d_add (d_add (d_add (d_mul (d_var 4) (d_var 4)) (d_mul d_int (d_var 4))) (d_mul d_int (d_ixM (d_var 0) d_int))) d_int) d_int) (d_var 0) d_int)
      (dss_one (ds_ret (d_mod (d_add (d_fdiv (d_ixM (d_var 0) d_int) d_int) (d_mul (d_fdiv (d_var 4) d_int) d_int)) (d_var 1)))))))))
  case hsp =>
    skip
    rintro ds cs Q Z ⟨p, most, rfl, m0, m1, ⟨b, hl, cells, k, rest, seed, cnt, rfl, h0, h1, h2⟩, hh⟩ _
    have h : ∀ r b, 0 ≤ r → r < most → BagOk b → Q (.int r) (put p b cs) := fun r b x1 x2 x3 => hh r _ x1 x2 ⟨⟨b, look_put hl, x3⟩, b, rfl⟩
    show (_ : WS) (finD Q Z) [some _, some _, none, none, none] cs
    have dv := divOk m0 m1
    refine r_key (N := fun ρ' cs' => ∃ (c : Option D) (k1 : Nat) (rest1 seed1 : Int), ρ' = [some (.opq (.ref p)), some (.int most), c, none, none] ∧ look p cs' = some (.lst [.lst (cells.map D.int), .int (k1 : Int), .int rest1, .int seed1, .int cnt]) ∧ 0 ≤ rest1 ∧ 0 ≤ seed1 ∧ seed1 < 2147483629 ∧ ∀ r b, 0 ≤ r → r < most → BagOk b → Q (.int r) (put p b cs')) ?_ (fun nx key => ?_)
    · rintro ρ' cs' ⟨c, k1, rest1, seed1, rfl, hl', a0, a1, a2, hq⟩
      walk_at "go"
      refine ⟨fun hk => ?_, fun hk => ?_⟩
      · walk_at "go"
        exact hq _ _ (Int.emod_nonneg _ (by omega)) (Int.emod_lt_of_pos _ m0) ⟨cells, k1, rest1 / most, seed1, cnt, rfl, Int.ediv_nonneg a0 (by omega), a1, a2⟩
      · have hs : seed1.natAbs < 2 ^ 64 := by omega
        walk_at "go"
        show Q _ (put p _ (put p _ cs'))
        rw [put_put]
        refine hq _ _ (Int.emod_nonneg _ (by omega)) (Int.emod_lt_of_pos _ m0) ⟨cells, k1, rest1, _, cnt + 1, rfl, a0, Int.emod_nonneg _ (by decide), Int.emod_lt_of_pos _ (by decide)⟩
    · walk_at "go"
      refine ⟨fun hk => ?_, fun hk => ?_⟩
      · walk_at "go"
        refine ⟨fun hk2 => ?_, fun hk2 => ?_⟩
        · have hlen : (k : Int) < (cells.length : Int) := by simpa using decT hk2
          have hat : atD (cells.map D.int) (k : Int) = some (.int (cells[k]'(by omega))) := by
            refine atI_nat ?_
            rw [List.getElem?_map, List.getElem?_eq_getElem (by omega)]
            rfl
          walk_at "go"
          refine r_ixL hat ?_
          generalize cells[k]'(by omega) = cell
          walk_at "go"
          refine ⟨fun hk3 => ?_, fun hk3 => ?_⟩
          · have hc := decT hk3
            walk_at "go"
            refine key _ _ ⟨_, k + 1, _, _, rfl, look_put (look_put (look_put hl)), ?_, Int.emod_nonneg _ (by decide), Int.emod_lt_of_pos _ (by decide), fun r b x1 x2 x3 => ?_⟩
            · show (0 : Int) ≤ cell - 10 ^ 18
              have : (10 : Int) ^ 18 ≤ cell := hc
              omega
            · rw [put_put, put_put, put_put]
              exact h r b x1 x2 x3
          · walk_at "go"
            refine key _ _ ⟨_, k + 1, _, _, rfl, look_put (look_put (look_put hl)), Int.le_refl _, Int.emod_nonneg _ (by decide), Int.emod_lt_of_pos _ (by decide), fun r b x1 x2 x3 => ?_⟩
            rw [put_put, put_put, put_put]
            exact h r b x1 x2 x3
        · walk_at "go"
          exact key _ _ ⟨none, k, rest, seed, rfl, hl, h0, h1, h2, h⟩
      · walk_at "go"
        exact key _ _ ⟨none, k, rest, seed, rfl, hl, h0, h1, h2, h⟩
local macro_rules | `(tactic| walk_at "cl") => `(tactic| (first | ((with_reducible apply r_law_get); (walk_at "in"); (walk_at "in"); (walk_at "bg"))))
def sp_law_far : DSp := fun ds cs P _ => ∃ (p : Addr) (n : Nat), ds = [.opq (.ref p), .int (n : Int)] ∧ n ≤ 20 ∧ BagIn p cs ∧ ∀ r cs', 0 ≤ r → r < 1000 ^ n → BagStep p cs cs' → P (.int r) cs'
theorem sc_law_far : FnScope ["_law_bag_here", "_law_steps", "_law_found", "_law_step"] ["_law_bag_here", "_law_steps"] (defScope s_law_far) := ⟨rfl, rfl, rfl, by decide +kernel, rfl, by decide +kernel, by decide +kernel⟩
theorem ok_law_far {P : Program} {w : World} {K : PySem.W.Frag} {mg : Str → Option Value} {base : Heap} (T : Txt K mg base) : FnOk P w K mg base (L2.CX P w) 2 (He.ga K "_law_far") T.fd_law_far ["_law_bag_here", "_law_steps"] (spL K 2 sp_law_far) := by
  apply ok_def (k := 1) T.F_law_far sc_law_far
  case hb =>
    intro cdv A outer s H E hr
    exact (dss_cons (ds_set (i := 2) sc_law_far.nd rfl (Or.inl rfl) d_int)
      (dss_cons (ds_for passD rfl (di_range1 rfl T.n_range (da_cons (d_var 1) da_nil)) (dg_name (i := 3) sc_law_far.nd rfl (Or.inl rfl)) (dss_one (ds_set (i := 2) sc_law_far.nd rfl (Or.inl rfl) (d_add (d_mul (d_var 2) d_int) (d_callN (ok_law_get T) (hr.mono (by decide)) rfl T.g_law_get T.F_law_get.kp (b_law_get T) takesD (da_cons (d_var 0) (da_cons d_int da_nil)))))))
      (dss_one (ds_ret (d_var 2)))))
  case hsp =>
    skip
    rintro ds cs Q Z ⟨p, n, rfl, hn, hb, h⟩ _
    show (_ : WS) (finD Q Z) [some _, some _, none, none] cs
    walk_at "go"
    refine ⟨⟨by omega, by omega⟩, ?_⟩
    refine r_loop0 (fun i ρ cs' => ∃ (r : Int) (c : Option D), ρ = [some (.opq (.ref p)), some (.int (n : Int)), some (.int r), c] ∧ 0 ≤ r ∧ r < 1000 ^ i ∧ BagStep p cs cs') ⟨0, none, rfl, by decide, by decide, BagStep.refl hb⟩ ?_ ?_
    · rintro i d ρ cs' N hd ⟨r, c, rfl, r0, r1, st⟩ hN
      obtain ⟨rfl, hi⟩ := rng_get hd
      walk_at "go"
      refine ⟨p, 1000, rfl, by decide, by decide, st.bag, fun g cs2 g0 g1 st2 => ?_⟩
      walk_at "go"
      refine hN _ _ ⟨_, _, rfl, by omega, ?_, st.trans st2⟩
      rw [Int.pow_succ]; omega
    · rintro ρ cs' ⟨r, c, rfl, r0, r1, st⟩
      walk_at "go"
      rw [rng_len, Int.toNat_natCast] at r1
      exact h _ _ r0 r1 st
def sp_law_number : DSp := fun ds cs P _ => ∃ (p : Addr), ds = [.opq (.ref p)] ∧ BagIn p cs ∧ ∀ (r : Int) cs', r.natAbs < 2 ^ 200 → BagStep p cs cs' → P (.int r) cs'
theorem r_law_number {p : Addr} {cs : Cs} {P : DP} {Z : XZ} (hb : BagIn p cs) (h : ∀ (r : Int) cs', r.natAbs < 2 ^ 200 → BagStep p cs cs' → P (.int r) cs') : sp_law_number [.opq (.ref p)] cs P Z := ⟨p, rfl, hb, h⟩
theorem sc_law_number : FnScope ["_law_bag_here", "_law_kind"] ["_law_bag_here"] (defScope s_law_number) := ⟨rfl, rfl, rfl, by decide +kernel, rfl, by decide +kernel, by decide +kernel⟩
theorem ok_law_number {P : Program} {w : World} {K : PySem.W.Frag} {mg : Str → Option Value} {base : Heap} (T : Txt K mg base) : FnOk P w K mg base (L2.CX P w) 3 (He.ga K "_law_number") T.fd_law_number ["_law_bag_here"] (spL K 1 sp_law_number) := by
  apply ok_def (k := 2) T.F_law_number sc_law_number
  case hb =>
    intro cdv A outer s H E hr
    exact (dss_cons (ds_set (i := 1) sc_law_number.nd rfl (Or.inl rfl) (d_callN (ok_law_get T) (hr.mono (by decide)) rfl T.g_law_get T.F_law_get.kp (b_law_get T) takesD (da_cons (d_var 0) (da_cons d_int da_nil))))
      (dss_cons (ds_if (dt_lt (d_var 1) d_int) (dss_one (ds_ret (d_sub (d_callN (ok_law_get T) (hr.mono (by decide)) rfl T.g_law_get T.F_law_get.kp (b_law_get T) takesD (da_cons (d_var 0) (da_cons d_int da_nil))) d_int))) dss_nil)
      (dss_cons (ds_if (dt_eq hr.units (d_var 1) d_int) (dss_one (ds_ret (d_sub (d_callN (ok_law_get T) (hr.mono (by decide)) rfl T.g_law_get T.F_law_get.kp (b_law_get T) takesD (da_cons (d_var 0) (da_cons d_int da_nil))) d_int))) dss_nil)
      (dss_one (ds_ret (d_mul (d_add (d_callN (ok_law_far T) (hr.mono (by decide)) rfl T.g_law_far T.F_law_far.kp (b_law_far T) takesD (da_cons (d_var 0) (da_cons (d_sub_ix (d_lst (da_cons d_int (da_cons d_int da_nil))) (d_sub (d_var 1) d_int)) da_nil))) d_int) (d_sub d_int (d_mul d_int (d_callN (ok_law_get T) (hr.mono (by decide)) rfl T.g_law_get T.F_law_get.kp (b_law_get T) takesD (da_cons (d_var 0) (da_cons d_int da_nil)))))))))))
  case hsp =>
    skip
    rintro ds cs Q Z ⟨p, rfl, hb, h⟩ _
    show (_ : WS) (finD Q Z) [some _, none] cs
    walk_at "go"
    refine ⟨p, 5, rfl, by decide, by decide, hb, fun k cs1 k0 k1 st1 => ?_⟩
    walk_at "go"
    refine ⟨fun hk => ?_, fun hk => ?_⟩
    · walk_at "go"
      refine ⟨p, 9, rfl, by decide, by decide, st1.bag, fun g cs2 g0 g1 st2 => ?_⟩
      walk_at "go"
      exact h _ _ (by omega) (st1.trans st2)
    · walk_at "go"
      refine ⟨fun hk2 => ?_, fun hk2 => ?_⟩
      · walk_at "go"
        refine ⟨p, 2001, rfl, by decide, by decide, st1.bag, fun g cs2 g0 g1 st2 => ?_⟩
        walk_at "go"
        exact h _ _ (by omega) (st1.trans st2)
      · have a1 := decF hk
        have a2 := decF hk2
        have key : ∃ n : Nat, n ≤ 20 ∧ atD [.int 3, .int 20] (k - 3) = some (.int (n : Int)) := by
          rcases (show k = 3 ∨ k = 4 by omega) with e | e
          · exact ⟨3, by decide, by rw [e] <;> rfl⟩
          · exact ⟨20, by decide, by rw [e] <;> rfl⟩
        obtain ⟨n, hn, e⟩ := key
        walk_at "go"
        refine r_ixL e ?_
        walk_at "go"
        refine ⟨p, n, rfl, by omega, st1.bag, fun r cs2 r0 r1 st2 => ?_⟩
        have r2 : r < 1000 ^ 20 := Int.lt_of_lt_of_le r1 (p1000 hn)
        walk_at "go"
        refine ⟨p, 2, rfl, by decide, by decide, st2.bag, fun g cs3 g0 g1 st3 => ?_⟩
        walk_at "go"
        refine h _ _ ?_ ((st1.trans st2).trans st3)
        rcases (show g = 0 ∨ g = 1 by omega) with e | e
        · rw [e]; omega
        · rw [e]; omega
local macro_rules | `(tactic| walk_at "cl") => `(tactic| (first | ((with_reducible apply r_law_number); (walk_at "bg"))))
def sp_law_some_part : DSp := fun ds cs P _ => ∃ (p : Addr), ds = [.opq (.ref p)] ∧ BagIn p cs ∧ ∀ (r : Rat) cs', Sz 201 r → BagStep p cs cs' → P (dR r) cs'
theorem r_law_some_part {p : Addr} {cs : Cs} {P : DP} {Z : XZ} (hb : BagIn p cs) (h : ∀ (r : Rat) cs', Sz 201 r → BagStep p cs cs' → P (dR r) cs') : sp_law_some_part [.opq (.ref p)] cs P Z := ⟨p, rfl, hb, h⟩
theorem sc_law_some_part : FnScope ["_law_bag_here", "_law_below"] ["_law_bag_here"] (defScope s_law_some_part) := ⟨rfl, rfl, rfl, by decide +kernel, rfl, by decide +kernel, by decide +kernel⟩
theorem ok_law_some_part {P : Program} {w : World} {K : PySem.W.Frag} {mg : Str → Option Value} {base : Heap} (T : Txt K mg base) : FnOk P w K mg base (L2.CX P w) 4 (He.ga K "_law_some_part") T.fd_law_some_part ["_law_bag_here"] (spL K 1 sp_law_some_part) := by
  apply ok_def (k := 3) T.F_law_some_part sc_law_some_part
  case hb =>
    intro cdv A outer s H E hr
    exact (dss_cons (ds_set (i := 1) sc_law_some_part.nd rfl (Or.inl rfl) (d_add (d_callB call_abs adq_abs rfl T.n_abs (by decide +kernel) (da_cons (d_callN (ok_law_number T) (hr.mono (by decide)) rfl T.g_law_number T.F_law_number.kp (b_law_number T) takesD (da_cons (d_var 0) da_nil)) da_nil)) d_int))
      (dss_one (ds_ret (d_callN (ok_law_part T) (hr.mono (by decide)) rfl T.g_law_part T.F_law_part.kp (b_law_part T) takesD (da_cons (d_callN (ok_law_number T) (hr.mono (by decide)) rfl T.g_law_number T.F_law_number.kp (b_law_number T) takesD (da_cons (d_var 0) da_nil)) (da_cons (d_if (dt_gt (d_callN (ok_law_get T) (hr.mono (by decide)) rfl T.g_law_get T.F_law_get.kp (b_law_get T) takesD (da_cons (d_var 0) (da_cons d_int da_nil))) d_int) (d_var 1) d_int) da_nil))))))
  case hsp =>
    skip
    rintro ds cs Q Z ⟨p, rfl, hb, h⟩ _
    show (_ : WS) (finD Q Z) [some _, none] cs
    walk_at "go"
    refine ⟨p, rfl, hb, fun a cs1 a1 st1 => ?_⟩
    walk_at "go"
    refine ⟨p, rfl, st1.bag, fun b cs2 b1 st2 => ?_⟩
    walk_at "go"
    refine ⟨p, 3, rfl, by decide, by decide, st2.bag, fun g cs3 g0 g1 st3 => ?_⟩
    walk_at "go"
    have st := (st1.trans st2).trans st3
    have big : ∀ c : Int, 0 < c → c < 2 ^ 201 → b.natAbs < 2 ^ 201 ∧ c.natAbs < 2 ^ 201 := fun c h1 h2 => ⟨by omega, by omega⟩
    have fin : ∀ c : Int, 0 < c → c < 2 ^ 201 → sp_law_part [.int b, .int c] cs3 Q (fun x cs1 => Z x cs1) := fun c h1 h2 => by
      obtain ⟨e1, e2⟩ := big c h1 h2
      exact ⟨b, c, rfl, by omega, Nat.lt_of_lt_of_le e2 (Nat.pow_le_pow_right (by decide) (by decide)), h _ _ (Sz.divInt (n := 201) (m := 201) (by omega) e1 e2 (Nat.le_refl _)) st⟩
    refine ⟨fun hk => ?_, fun hk => ?_⟩
    · walk_at "go"
      exact fin _ (by split <;> omega) (by split <;> omega)
    · walk_at "go"
      exact fin 1 (by decide) (by decide)
local macro_rules | `(tactic| walk_at "cl") => `(tactic| (first | ((with_reducible apply r_law_some_part); (walk_at "bg"))))
def sp_law_pick : DSp := fun ds cs P _ => ∃ (p : Addr) (xs : List D), (ds = [.opq (.ref p), .lst xs] ∨ ds = [.opq (.ref p), .tup xs]) ∧ 0 < xs.length ∧ xs.length < 100000 ∧ BagIn p cs ∧ ∀ x cs', x ∈ xs → BagStep p cs cs' → P x cs'
theorem r_law_pick {p : Addr} {xs : List D} {cs : Cs} {P : DP} {Z : XZ} (h0 : 0 < xs.length) (h1 : xs.length < 100000) (hb : BagIn p cs) (h : ∀ x cs', x ∈ xs → BagStep p cs cs' → P x cs') : sp_law_pick [.opq (.ref p), .lst xs] cs P Z := ⟨p, xs, .inl rfl, h0, h1, hb, h⟩
theorem sc_law_pick : FnScope ["_law_bag_here", "_law_some"] ["_law_bag_here", "_law_some"] (defScope s_law_pick) := ⟨rfl, rfl, rfl, by decide +kernel, rfl, by decide +kernel, by decide +kernel⟩
theorem ok_law_pick {P : Program} {w : World} {K : PySem.W.Frag} {mg : Str → Option Value} {base : Heap} (T : Txt K mg base) : FnOk P w K mg base (L2.CX P w) 2 (He.ga K "_law_pick") T.fd_law_pick ["_law_bag_here", "_law_some"] (spL K 2 sp_law_pick) := by
  apply ok_def (k := 1) T.F_law_pick sc_law_pick
  case hb =>
    intro cdv A outer s H E hr
    exact (dss_one (ds_ret (d_sub_ix (d_var 1) (d_callN (ok_law_get T) (hr.mono (by decide)) rfl T.g_law_get T.F_law_get.kp (b_law_get T) takesD (da_cons (d_var 0) (da_cons (d_callB call_len_seq adq_len rfl T.n_len (by decide +kernel) (da_cons (d_var 1) da_nil)) da_nil))))))
  case hsp =>
    skip
    rintro ds cs Q Z ⟨p, xs, hds, h0, h1, hb, h⟩ _
    rcases hds with rfl | rfl
    all_goals
      show (_ : WS) (finD Q Z) [some _, some _] cs
      walk_at "go"
      refine ⟨p, (xs.length : Int), rfl, by omega, by omega, hb, fun r cs1 r0 r1 st => ?_⟩
      obtain ⟨x, hx, e⟩ := atD_mem r0 r1
      first
        | exact r_ixL e (h _ _ hx st)
        | exact r_ixT e (h _ _ hx st)
local macro_rules | `(tactic| walk_at "cl") => `(tactic| (first | ((with_reducible apply r_law_pick); (walk_at "in"); (walk_at "in"); (walk_at "bg"))))
def sp_law_bent_text : DSp := fun ds cs P _ => ∃ (p : Addr) (z : Str), ds = [.opq (.ref p), .str z] ∧ z.length ≤ 80000 ∧ BagIn p cs ∧ ∀ (y : Str) cs', y.length ≤ z.length + 1 → BagStep p cs cs' → P (.str y) cs'
theorem r_law_bent_text {p : Addr} {z : Str} {cs : Cs} {P : DP} {Z : XZ} (hz : z.length ≤ 80000) (hb : BagIn p cs) (h : ∀ (y : Str) cs', y.length ≤ z.length + 1 → BagStep p cs cs' → P (.str y) cs') : sp_law_bent_text [.opq (.ref p), .str z] cs P Z := ⟨p, z, rfl, hz, hb, h⟩
theorem sc_law_bent_text : FnScope ["_law_bag_here", "_law_text_here", "_law_at", "_law_kind", "_law_sign"] ["_law_bag_here", "_law_text_here"] (defScope s_law_bent_text) := ⟨rfl, rfl, rfl, by decide +kernel, rfl, by decide +kernel, by decide +kernel⟩
theorem ok_law_bent_text {P : Program} {w : World} {K : PySem.W.Frag} {mg : Str → Option Value} {base : Heap} (T : Txt K mg base) : FnOk P w K mg base (L2.CX P w) 3 (He.ga K "_law_bent_text") T.fd_law_bent_text ["_law_bag_here", "_law_text_here"] (spL K 2 sp_law_bent_text) := by
  apply ok_def (k := 2) T.F_law_bent_text sc_law_bent_text
  case hb =>
    intro cdv A outer s H E hr
    exact (dss_cons (ds_set (i := 2) sc_law_bent_text.nd rfl (Or.inl rfl) (d_callN (ok_law_get T) (hr.mono (by decide)) rfl T.g_law_get T.F_law_get.kp (b_law_get T) takesD (da_cons (d_var 0) (da_cons (d_add (d_callB call_len_str adq_lenS rfl T.n_len (by decide +kernel) (da_cons (d_var 1) da_nil)) d_int) da_nil))))
      (dss_cons (ds_set (i := 3) sc_law_bent_text.nd rfl (Or.inl rfl) (d_callN (ok_law_get T) (hr.mono (by decide)) rfl T.g_law_get T.F_law_get.kp (b_law_get T) takesD (da_cons (d_var 0) (da_cons d_int da_nil))))
      (dss_cons (ds_set (i := 4) sc_law_bent_text.nd rfl (Or.inl rfl) (d_callN (ok_law_pick T) (hr.mono (by decide)) rfl T.g_law_pick T.F_law_pick.kp (b_law_pick T) takesD (da_cons (d_var 0) (da_cons (d_catL (d_callTy (cr_listS rfl) adq_listS rfl T.n_list (by decide +kernel) (da_cons d_str da_nil)) (d_lst (da_cons d_str (da_cons d_str (da_cons d_str (da_cons d_str da_nil)))))) da_nil))))
      (dss_cons (ds_if (dt_eq hr.units (d_var 3) d_int) (dss_one (ds_ret (d_catS (d_catS (d_slice sl_str adq_slS (d_var 1) do_none (do_some (d_var 2))) (d_var 4)) (d_slice sl_str adq_slS (d_var 1) (do_some (d_var 2)) do_none)))) dss_nil)
      (dss_cons (ds_if (dt_eq hr.units (d_var 3) d_int) (dss_one (ds_ret (d_catS (d_catS (d_slice sl_str adq_slS (d_var 1) do_none (do_some (d_var 2))) (d_var 4)) (d_slice sl_str adq_slS (d_var 1) (do_some (d_add (d_var 2) d_int)) do_none)))) dss_nil)
      (dss_cons (ds_if (dt_eq hr.units (d_var 3) d_int) (dss_one (ds_ret (d_catS (d_slice sl_str adq_slS (d_var 1) do_none (do_some (d_var 2))) (d_slice sl_str adq_slS (d_var 1) (do_some (d_add (d_var 2) d_int)) do_none)))) dss_nil)
      (dss_one (ds_ret (d_catS (d_catS (d_slice sl_str adq_slS (d_var 1) do_none (do_some (d_var 2))) (d_slice sl_str adq_slS (d_var 1) (do_some (d_var 2)) (do_some (d_add (d_var 2) d_int)))) (d_slice sl_str adq_slS (d_var 1) (do_some (d_var 2)) do_none))))))))))
  case hsp =>
    skip
    rintro ds cs Q Z ⟨p, z, rfl, hz, hb, h⟩ _
    show (_ : WS) (finD Q Z) [some _, some _, none, none, none] cs
    walk_at "GO"
    refine r_lenS (by omega) ?_
    walk_at "GO"
    intro r ca r0 r1 st1
    obtain ⟨n, rfl⟩ : ∃ n : Nat, r = n := ⟨r.toNat, by omega⟩
    have hbc := st1.bag
    walk_at "GO"
    intro kd cb k0 k1 st2
    have hbd := st2.bag
    walk_at "GO"
    refine r_listS (by decide +kernel) ?_
    walk_at "GO"
    intro x cd hx st3
    obtain ⟨s, rfl, hs⟩ : ∃ s : Str, x = .str s ∧ s.length = 1 := by
      rcases List.mem_append.mp hx with hx | hx
      · rw [List.map_map] at hx
        obtain ⟨c, _, rfl⟩ := List.mem_map.mp hx
        exact ⟨_, rfl, rfl⟩
      · simp only [List.mem_cons, List.not_mem_nil, or_false] at hx
        rcases hx with rfl | rfl | rfl | rfl <;> exact ⟨_, rfl, by decide +kernel⟩
    have st := (st1.trans st2).trans st3
    have e1 := cutS_hi z n
    have e2 := cutS_lo z n
    have e3 : (cutS z (some ((n : Int) + 1)) none).length = z.length - (n + 1) := cutS_lo z (n + 1)
    have e4 : (cutS z (some (n : Int)) (some ((n : Int) + 1))).length ≤ 1 := by have := cutS_mid z n (n + 1); exact Nat.le_trans this (by omega)
    generalize hA : cutS z none (some (n : Int)) = A at e1
    generalize hB : cutS z (some (n : Int)) none = B at e2
    generalize hC : cutS z (some ((n : Int) + 1)) none = C at e3
    generalize hD : cutS z (some (n : Int)) (some ((n : Int) + 1)) = E at e4
    have lAs : (A ++ s).length = A.length + 1 := by rw [len_app, hs]
    have lAC : (A ++ C).length = A.length + C.length := len_app A C
    have lAE : (A ++ E).length = A.length + E.length := len_app A E
    have lAsB : ((A ++ s) ++ B).length = A.length + 1 + B.length := by rw [len_app, lAs]
    have lAsC : ((A ++ s) ++ C).length = A.length + 1 + C.length := by rw [len_app, lAs]
    have lAEB : ((A ++ E) ++ B).length = A.length + E.length + B.length := by rw [len_app, lAE]
    walk_at "GO"
    by_cases q0 : kd = 0
    · refine r_pos q0 ?_
      walk_at "GO"
      refine r_slS (by omega) ?_
      rw [hA]
      walk_at "GO"
      refine r_slS (by omega) ?_
      rw [hB]
      refine r_catS (by omega) ?_
      exact h _ _ (by omega) st
    · refine r_neg_ q0 ?_
      walk_at "GO"
      by_cases q1 : kd = 1
      · refine r_pos q1 ?_
        walk_at "GO"
        refine r_slS (by omega) ?_
        rw [hA]
        walk_at "GO"
        refine r_slS (by omega) ?_
        rw [hC]
        refine r_catS (by omega) ?_
        exact h _ _ (by omega) st
      · refine r_neg_ q1 ?_
        walk_at "GO"
        by_cases q2 : kd = 2
        · refine r_pos q2 ?_
          walk_at "GO"
          refine r_slS (by omega) ?_
          rw [hA]
          walk_at "GO"
          refine r_slS (by omega) ?_
          rw [hC]
          refine r_catS (by omega) ?_
          exact h _ _ (by omega) st
        · refine r_neg_ q2 ?_
          walk_at "GO"
          refine r_slS (by omega) ?_
          rw [hA]
          walk_at "GO"
          refine r_slS (by omega) ?_
          rw [hD]
          refine r_catS (by omega) ?_
          walk_at "GO"
          refine r_slS (by omega) ?_
          rw [hB]
          refine r_catS (by omega) ?_
          exact h _ _ (by omega) st
local macro_rules | `(tactic| walk_at "cl") => `(tactic| (first | ((with_reducible apply r_law_bent_text); (walk_at "in"); (walk_at "bg"))))
def sp_law_same : Nat → DSp
  | 0 => fun _ _ _ _ => False
  | n + 1 => fun ds cs P _ => ∃ d, ds = [d, d] ∧ n ≤ 10 ∧ plD n d = true ∧ P (.bl true) cs
theorem r_law_same {d : D} {cs : Cs} {P : DP} {Z : XZ} (hd : plD 5 d = true) (h : P (.bl true) cs) : sp_law_same 6 [d, d] cs P Z := ⟨d, rfl, by decide, hd, h⟩
theorem sc_law_same : FnScope ["_law_found", "_law_due", "_law_key_now", "_law_one", "_law_other"] ["_law_found", "_law_due"] (defScope s_law_same) := ⟨rfl, rfl, rfl, by decide +kernel, rfl, by decide +kernel, by decide +kernel⟩
theorem ok_law_same {P : Program} {w : World} {K : PySem.W.Frag} {mg : Str → Option Value} {base : Heap} (T : Txt K mg base) (n : Nat) : FnOk P w K mg base (L2.CX P w) (n + 1) (He.ga K "_law_same") T.fd_law_same ["_law_found", "_law_due"] (spL K 2 (sp_law_same n)) := by
  induction n with
  | zero => exact vacF
  | succ n G =>
  rw [show n + 1 + 1 = (n + 1) + 1 from by omega]
  apply ok_def (k := n + 1) T.F_law_same sc_law_same
  case hb =>
    intro cdv A outer s H E hr
    exact (dss_cons (ds_if (dt_val (d_callB call_isi adq_isi rfl T.n_isinstance (by decide +kernel) (da_cons (d_var 1) (da_cons (d_ty (n := "dict") rfl T.n_dict (by decide +kernel)) da_nil)))) dss_never dss_nil)
      (dss_cons (ds_if (dt_val (d_callB call_isiD adq_isiT rfl T.n_isinstance (by decide +kernel) (da_cons (d_var 1) (da_cons (d_tup (da_cons (d_ty (n := "list") rfl T.n_list (by decide +kernel)) (da_cons (d_ty (n := "tuple") rfl T.n_tuple (by decide +kernel)) da_nil))) da_nil)))) (dss_cons (ds_if (dt_w (dw_or (dt_ne hr.units (d_callB call_isi adq_isi rfl T.n_isinstance (by decide +kernel) (da_cons (d_var 0) (da_cons (d_ty (n := "tuple") rfl T.n_tuple (by decide +kernel)) da_nil))) (d_callB call_isi adq_isi rfl T.n_isinstance (by decide +kernel) (da_cons (d_var 1) (da_cons (d_ty (n := "tuple") rfl T.n_tuple (by decide +kernel)) da_nil)))) (dw_or1 (dt_ne hr.units (d_callB call_isi adq_isi rfl T.n_isinstance (by decide +kernel) (da_cons (d_var 0) (da_cons (d_ty (n := "list") rfl T.n_list (by decide +kernel)) da_nil))) (d_callB call_isi adq_isi rfl T.n_isinstance (by decide +kernel) (da_cons (d_var 1) (da_cons (d_ty (n := "list") rfl T.n_list (by decide +kernel)) da_nil))))))) (dss_one (ds_ret d_bl)) dss_nil)
      (dss_one (ds_ret (d_and (d_eq hr.units (d_callB call_len_seq adq_len rfl T.n_len (by decide +kernel) (da_cons (d_var 0) da_nil)) (d_callB call_len_seq adq_len rfl T.n_len (by decide +kernel) (da_cons (d_var 1) da_nil))) (d_one (d_callB (cr_all rfl) adq_all rfl T.n_all (by decide +kernel) (da_cons (d_lc rfl sc_law_same.nd (di_zip rfl T.n_zip (da_cons (d_var 0) (da_cons (d_var 1) da_nil))) (blkOk_by (own := [("_law_one", 3), ("_law_other", 4)]) (N := ["_law_found", "_law_due", "_law_key_now", "_law_one", "_law_other"]) (sc := defScope s_law_same) (by decide +kernel)) (gok_two (by decide) (by decide)) (fun _ _ _ _ _ => (pg_tup (n := 2) rfl (pgs_cons (pg_name (i := 3) sc_law_same.nd rfl (Or.inl rfl)) (pgs_cons (pg_name (i := 4) sc_law_same.nd rfl (Or.inl rfl)) pgs_nil)))) (fun _ _ _ _ _ => dts_nil) (fun _ _ _ _ _ => (d_callN G hr rfl T.g_law_same T.F_law_same.kp (b_law_same T) takes0 (da_cons (d_var 3) (da_cons (d_var 4) da_nil))))) da_nil))))))) dss_nil)
      (dss_cons (ds_if (dt_w (dw_or (dt_ne hr.units (d_callB call_isi adq_isi rfl T.n_isinstance (by decide +kernel) (da_cons (d_var 1) (da_cons (d_ty (n := "bool") rfl T.n_bool (by decide +kernel)) da_nil))) (d_callB call_isi adq_isi rfl T.n_isinstance (by decide +kernel) (da_cons (d_var 0) (da_cons (d_ty (n := "bool") rfl T.n_bool (by decide +kernel)) da_nil)))) (dw_or1 (dt_ne hr.units (d_callB call_isi adq_isi rfl T.n_isinstance (by decide +kernel) (da_cons (d_var 1) (da_cons (d_ty (n := "str") rfl T.n_str (by decide +kernel)) da_nil))) (d_callB call_isi adq_isi rfl T.n_isinstance (by decide +kernel) (da_cons (d_var 0) (da_cons (d_ty (n := "str") rfl T.n_str (by decide +kernel)) da_nil))))))) (dss_one (ds_ret d_bl)) dss_nil)
      (dss_cons (ds_if (dt_ne hr.units (d_callB call_isi adq_isi rfl T.n_isinstance (by decide +kernel) (da_cons (d_var 1) (da_cons (d_ty (n := "int") rfl T.n_int (by decide +kernel)) da_nil))) (d_callB call_isi adq_isi rfl T.n_isinstance (by decide +kernel) (da_cons (d_var 0) (da_cons (d_ty (n := "int") rfl T.n_int (by decide +kernel)) da_nil)))) (dss_one (ds_ret d_bl)) dss_nil)
      (dss_one (ds_ret (d_and (d_eq hr.units (d_is (d_var 1) d_non) (d_is (d_var 0) d_non)) (d_one (d_eq hr.units (d_var 0) (d_var 1))))))))))
  case hsp =>
    skip
    rintro ds cs Q Z ⟨d, rfl, hn, hd, h⟩ _
    show (_ : WS) (finD Q Z) [some _, some _, none, none, none] cs
    have hd20 := plD_mono d hd (show n ≤ 20 by omega)
    have done_ : ∀ xs : List D, plL (n - 1) xs = true → 0 < n → ∀ x ∈ List.zipWith (fun d e => D.tup [d, e]) xs xs, ∃ y, x = .tup [y, y] ∧ plD (n - 1) y = true := by
      intro xs hx _ x hm
      rw [List.zipWith_self] at hm
      obtain ⟨y, hy, rfl⟩ := List.mem_map.mp hm
      exact ⟨y, rfl, plL_mem hx hy⟩
    cases d <;> try first
      | (cases n <;> simp [plD] at hd; done)
      | (walk_at "go"; first | exact h | (simpa using h) | (refine r_eqSelf hd20 ?_; exact h))
    all_goals
      rename_i xs hlen
      cases n with
      | zero => simp [plD] at hd
      | succ m =>
        have key := done_ xs (by first | exact plD_t hd | exact plD_l hd) (by omega)
        have hz : xs.length ≤ 100000 := by first | exact plD_tn hd | exact plD_ln hd
        walk_at "go"
        refine ⟨fun _ => ?_, fun z => absurd (show (xs.length : Int) = xs.length from rfl) (decF z)⟩
        walk_at "go"
        refine ⟨by rw [List.length_zipWith]; omega, ?_⟩
        refine r_compM (fun _ => .bl true) (fun d N N' hd hN => ?_) ?_
        · obtain ⟨y, rfl, hy⟩ := key d hd
          walk_at "go"
          exact ⟨y, rfl, by omega, hy, hN⟩
        walk_at "go"
        refine r_all (ns := List.replicate (List.zipWith (fun d e => D.tup [d, e]) xs xs).length true) (by rw [show (List.zipWith (fun d e => D.tup [d, e]) xs xs).map (fun _ => D.bl true) = (List.replicate (List.zipWith (fun d e => D.tup [d, e]) xs xs).length true).map D.bl by rw [List.map_replicate]; exact List.map_const']; exact blsOf_map _) ?_
        rw [List.all_replicate]
        simpa using h
local macro_rules | `(tactic| walk_at "cl") => `(tactic| (first | ((with_reducible apply r_law_same); (walk_at "pl"))))
def sp_figures_in : DSp := fun ds cs P Z => ∃ (z : Str) (m : Nat), ds = [.str z, .int (m : Int)] ∧ z.length ≤ 100000 ∧ m ≤ 600 ∧ (FigOk (TL.tl z) m → P (.int ((NumText.digitsVal (TL.tl z) : Nat) : Int)) cs) ∧ (¬ FigOk (TL.tl z) m → Z (exnF "BadText" "at" (.int 0)) cs)
theorem sc_figures_in : FnScope ["text", "most", "sign"] ["text", "most"] (defScope s_figures_in) := ⟨rfl, rfl, rfl, by decide +kernel, rfl, by decide +kernel, by decide +kernel⟩
theorem ok_figures_in {P : Program} {w : World} {K : PySem.W.Frag} {mg : Str → Option Value} {base : Heap} (T : Txt K mg base) : FnOk P w K mg base (L2.CX P w) 4 (He.ga K "figures_in") T.fd_figures_in ["text", "most"] (spL K 2 sp_figures_in) := by
  apply ok_def (k := 3) T.F_figures_in sc_figures_in
  case hb =>
    intro cdv A outer s H E hr
    exact (dss_cons (ds_if (dt_w (dw_or (dt_not (dt_chain_le_le d_int (d_callB call_len_str adq_lenS rfl T.n_len (by decide +kernel) (da_cons (d_var 0) da_nil)) (d_var 1))) (dw_or1 (dt_not (dt_val (d_callB (cr_all rfl) adq_all rfl T.n_all (by decide +kernel) (da_cons (d_lc rfl sc_figures_in.nd (di_str (d_var 0)) (blkOk_by (own := [("sign", 2)]) (N := ["text", "most", "sign"]) (sc := defScope s_figures_in) (by decide +kernel)) (gok_name (by decide)) (fun _ _ _ _ _ => (pg_name (i := 2) sc_figures_in.nd rfl (Or.inl rfl))) (fun _ _ _ _ _ => dts_nil) (fun _ _ _ _ _ => (d_inS (d_var 2) d_str))) da_nil))))))) (dss_one (ds_raise0 (dds := [.int 0]) rfl takesD T.x_BadText.x T.x_BadText.ini T.x_BadText.ty (ok_i_BadText T) (hr.mono (by decide)) (bq_i_BadText T).2 (bq_i_BadText T).1 (fun _ => .cons (.int _) .nil) rfl (fld1 (fl := "at") (by decide)) rfl T.g_BadText)) dss_nil)
      (dss_cons (ds_if (dt_w (dw_and (dt_eq hr.units (d_ixS (d_var 0) d_int) d_str) (dw_and1 (dt_gt (d_callB call_len_str adq_lenS rfl T.n_len (by decide +kernel) (da_cons (d_var 0) da_nil)) d_int)))) (dss_one (ds_raise0 (dds := [.int 0]) rfl takesD T.x_BadText.x T.x_BadText.ini T.x_BadText.ty (ok_i_BadText T) (hr.mono (by decide)) (bq_i_BadText T).2 (bq_i_BadText T).1 (fun _ => .cons (.int _) .nil) rfl (fld1 (fl := "at") (by decide)) rfl T.g_BadText)) dss_nil)
      (dss_one (ds_ret (d_callTy call_int_str adq_intS rfl T.n_int (by decide +kernel) (da_cons (d_var 0) da_nil))))))
  case hsp =>
    skip
    rintro ds cs Q Z ⟨z, m, rfl, hzl, hm, h, hn⟩ _
    have hlen : z.length = (TL.tl z).length := TL.len_tl z
    show (_ : WS) (finD Q Z) [some _, some _, none] cs
    walk_at "GO"
    refine r_lenS (by omega) ?_
    walk_at "GO"
    by_cases h1 : 1 ≤ z.length
    case neg =>
      rw [decide_eq_false (show ¬ (1 : Int) ≤ (z.length : Int) by omega)]
      walk_at "GO"
      exact hn fun f => by have := f.ne; exact this (List.length_eq_zero_iff.mp (by omega))
    rw [decide_eq_true (show (1 : Int) ≤ (z.length : Int) by omega)]
    walk_at "GO"
    by_cases h2 : z.length ≤ m
    case neg =>
      rw [decide_eq_false (show ¬ (z.length : Int) ≤ (m : Int) by omega)]
      walk_at "GO"
      exact hn fun f => by have := f.len; omega
    rw [decide_eq_true (show (z.length : Int) ≤ (m : Int) by omega)]
    walk_at "GO"
    refine ⟨by rw [List.length_map]; show z.cps.toList.length ≤ _; have : z.cps.toList.length = (TL.tl z).length := rfl; omega, ?_⟩
    refine r_cm (fun c => .bl (decide (c ∈ (Str.ofString "0123456789").cps.toList))) (fun c N N' hm2 hN => ?_) ?_
    · walk_at "GO"
      exact hN
    walk_at "GO"
    refine r_all (ns := z.cps.toList.map fun c => decide (c ∈ (Str.ofString "0123456789").cps.toList)) (by rw [show (z.cps.toList.map fun c => D.bl (decide (c ∈ (Str.ofString "0123456789").cps.toList))) = ((z.cps.toList.map fun c => decide (c ∈ (Str.ofString "0123456789").cps.toList)).map D.bl) by rw [List.map_map]; rfl]; exact blsOf_map _) ?_
    have hal : (z.cps.toList.map fun c => decide (c ∈ (Str.ofString "0123456789").cps.toList)).all id = true ↔ NumText.AllDigits (TL.tl z) := by
      rw [List.all_eq_true]
      constructor
      · intro a c hc
        exact (dig_iff c).mp (of_decide_eq_true (a _ (List.mem_map.mpr ⟨c, hc, rfl⟩)))
      · intro a y hy
        obtain ⟨c, hc, rfl⟩ := List.mem_map.mp hy
        exact decide_eq_true ((dig_iff c).mpr (a c hc))
    generalize (z.cps.toList.map fun c => decide (c ∈ (Str.ofString "0123456789").cps.toList)).all id = al at hal
    cases al with
    | false =>
      walk_at "GO"
      exact hn fun f => by have := hal.mpr f.dig; cases this
    | true =>
      have hdig := hal.mp rfl
      clear hal
      walk_at "GO"
      obtain ⟨c, r, hc⟩ : ∃ c r, TL.tl z = c :: r := by
        cases hq : TL.tl z with
        | nil => rw [hq] at hlen; rw [List.length_nil] at hlen; omega
        | cons c r => exact ⟨c, r, rfl⟩
      have hne : TL.tl z ≠ [] := by rw [hc]; exact List.cons_ne_nil _ _
      refine r_ixS (c := c) (by omega) (atI0 hc) ?_
      walk_at "GO"
      by_cases h0 : c = 48
      · refine r_pos ((sgn_iff zero_sgn).mpr h0) ?_
        walk_at "GO"
        refine r_lenS (by omega) ?_
        walk_at "GO"
        by_cases h3 : z.length = 1
        · refine r_neg_ (by omega) ?_
          walk_at "GO"
          refine r_intS (intText_digits hdig hne (by omega)) (by omega) ?_
          exact h ⟨hne, by omega, hdig, fun _ => by omega⟩
        · refine r_pos (by omega) ?_
          walk_at "GO"
          exact hn fun f => by have := f.hd (by rw [hc, h0]; rfl); omega
      · refine r_neg_ (fun e => h0 ((sgn_iff zero_sgn).mp e)) ?_
        walk_at "GO"
        refine r_intS (intText_digits hdig hne (by omega)) (by omega) ?_
        exact h ⟨hne, by omega, hdig, fun e => by
          rw [hc] at e
          exact absurd (Option.some.inj e) h0⟩
def sp_number_in : DSp := fun ds cs P Z => ∃ (z : Str) (m : Nat), ds = [.str z, .int (m : Int)] ∧ z.length ≤ 100000 ∧ m ≤ 600 ∧ (∀ i, NumF z i m → P (.int i) cs) ∧ ((∀ i, ¬ NumF z i m) → Z (exnF "BadText" "at" (.int 0)) cs)
theorem sc_number_in : FnScope ["text", "most", "found"] ["text", "most"] (defScope s_number_in) := ⟨rfl, rfl, rfl, by decide +kernel, rfl, by decide +kernel, by decide +kernel⟩
theorem ok_number_in {P : Program} {w : World} {K : PySem.W.Frag} {mg : Str → Option Value} {base : Heap} (T : Txt K mg base) : FnOk P w K mg base (L2.CX P w) 5 (He.ga K "number_in") T.fd_number_in ["text", "most"] (spL K 2 sp_number_in) := by
  apply ok_def (k := 4) T.F_number_in sc_number_in
  case hb =>
    intro cdv A outer s H E hr
    exact (dss_cons (ds_if (dt_ne hr.units (d_slice sl_str adq_slS (d_var 0) do_none (do_some d_int)) d_str) (dss_one (ds_ret (d_callD (dds := []) (ok_figures_in T) (hr.mono (by decide)) rfl T.g_figures_in T.F_figures_in.kp (bp_figures_in_2 T) (fun _ => RepL.nil) takesD (da_cons (d_var 0) (da_cons (d_var 1) da_nil))))) dss_nil)
      (dss_cons (ds_set (i := 2) sc_number_in.nd rfl (Or.inl rfl) (d_callD (dds := []) (ok_figures_in T) (hr.mono (by decide)) rfl T.g_figures_in T.F_figures_in.kp (bp_figures_in_2 T) (fun _ => RepL.nil) takesD (da_cons (d_slice sl_str adq_slS (d_var 0) (do_some d_int) do_none) (da_cons (d_var 1) da_nil))))
      (dss_cons (ds_if (dt_eq hr.units (d_var 2) d_int) (dss_one (ds_raise0 (dds := [.int 0]) rfl takesD T.x_BadText.x T.x_BadText.ini T.x_BadText.ty (ok_i_BadText T) (hr.mono (by decide)) (bq_i_BadText T).2 (bq_i_BadText T).1 (fun _ => .cons (.int _) .nil) rfl (fld1 (fl := "at") (by decide)) rfl T.g_BadText)) dss_nil)
      (dss_one (ds_ret (d_neg (d_var 2)))))))
  case hsp =>
    skip
    rintro ds cs Q Z ⟨z, m, rfl, hzl, hm, h, hn⟩ _
    have hlen : z.length = (TL.tl z).length := TL.len_tl z
    show (_ : WS) (finD Q Z) [some _, some _, none] cs
    walk_at "GO"
    refine r_slS (by omega) ?_
    walk_at "GO"
    by_cases h1 : cutS z none (some 1) = Str.ofString "-"
    · refine r_npos h1 ?_
      obtain ⟨l, hl⟩ := (cut1_iff z).mp h1
      have hct := cutT_tl hl
      have hcl : (cutS z (some 1) none).length ≤ 100000 := by rw [TL.len_tl, hct]; rw [hlen, hl, List.length_cons] at hzl; omega
      walk_at "GO"
      refine r_slS (by omega) ?_
      walk_at "GO"
      refine ⟨cutS z (some 1) none, m, rfl, hcl, hm, fun hf => ?_, fun hf => ?_⟩
      · rw [hct] at hf ⊢
        walk_at "GO"
        by_cases h0 : NumText.digitsVal l = 0
        · refine r_pos (by omega) ?_
          walk_at "GO"
          refine hn fun i hi => ?_
          rcases hi with ⟨g1, g2⟩ | ⟨l', g1, g2, g3, g4⟩
          · rw [hl] at g1; exact figOk_minus g1
          · rw [hl] at g1
            injection g1 with _ e
            rw [← e] at g3
            exact g3 h0
        · refine r_neg_ (by omega) ?_
          walk_at "GO"
          exact h _ (.inr ⟨l, hl, hf, h0, rfl⟩)
      · rw [hct] at hf
        refine hn fun i hi => ?_
        rcases hi with ⟨g1, g2⟩ | ⟨l', g1, g2, g3, g4⟩
        · rw [hl] at g1; exact figOk_minus g1
        · rw [hl] at g1
          injection g1 with _ e
          rw [← e] at g2
          exact hf g2
    · refine r_nneg h1 ?_
      walk_at "GO"
      refine ⟨z, m, rfl, hzl, hm, fun hf => h _ (.inl ⟨hf, rfl⟩), fun hf => hn fun i hi => ?_⟩
      rcases hi with ⟨g1, g2⟩ | ⟨l', g1, g2, g3, g4⟩
      · exact hf g1
      · exact h1 ((cut1_iff z).mpr ⟨l', g1⟩)
def sp_is_whole : DSp := fun ds cs P _ => ∃ d, ds = [d] ∧ knD d = true ∧ P (.bl (wholeD d)) cs
theorem r_is_whole {i : Int} {cs : Cs} {P : DP} {Z : XZ} (h : P (.bl true) cs) : sp_is_whole [.int i] cs P Z := ⟨.int i, rfl, rfl, h⟩
theorem sc_is_whole : FnScope ["thing"] ["thing"] (defScope s_is_whole) := ⟨rfl, rfl, rfl, by decide +kernel, rfl, by decide +kernel, by decide +kernel⟩
theorem ok_is_whole {P : Program} {w : World} {K : PySem.W.Frag} {mg : Str → Option Value} {base : Heap} (T : Txt K mg base) : FnOk P w K mg base (L2.CX P w) 1 (He.ga K "is_whole") T.fd_is_whole ["thing"] (spL K 1 sp_is_whole) := by
  apply ok_def (k := 0) T.F_is_whole sc_is_whole
  case hb =>
    intro cdv A outer s H E hr
    exact (dss_one (ds_ret (d_and (d_callB call_isi adq_isi rfl T.n_isinstance (by decide +kernel) (da_cons (d_var 0) (da_cons (d_ty (n := "int") rfl T.n_int (by decide +kernel)) da_nil))) (d_one (d_not (d_callB call_isi adq_isi rfl T.n_isinstance (by decide +kernel) (da_cons (d_var 0) (da_cons (d_ty (n := "bool") rfl T.n_bool (by decide +kernel)) da_nil))))))))
  case hsp =>
    skip
    rintro ds cs Q Z ⟨d, rfl, hk, h⟩ _
    show (_ : WS) (finD Q Z) [some _] cs
    cases d <;> first
      | (simp [knD] at hk; done)
      | (walk_at "go"; exact h)
local macro_rules | `(tactic| walk_at "cl") => `(tactic| (first | (with_reducible refine r_is_whole ?_)))
def sp_common : DSp := fun ds cs P _ => ∃ a b : Nat, ds = [.int (a : Int), .int (b : Int)] ∧ P (.int (Nat.gcd a b : Int)) cs
theorem sc_common : FnScope ["one", "other"] ["one", "other"] (defScope s_common) := ⟨rfl, rfl, rfl, by decide +kernel, rfl, by decide +kernel, by decide +kernel⟩
theorem ok_common {P : Program} {w : World} {K : PySem.W.Frag} {mg : Str → Option Value} {base : Heap} (T : Txt K mg base) : FnOk P w K mg base (L2.CX P w) 1 (He.ga K "common") T.fd_common ["one", "other"] (spL K 2 sp_common) := by
  apply ok_def (k := 0) T.F_common sc_common
  case hb =>
    intro cdv A outer s H E hr
    exact (dss_cons (ds_while passD (dt_ne hr.units (d_var 1) d_int) (dss_one (ds_par (i := 0) (j := 1) rfl sc_common.nd rfl rfl (by decide) rfl rfl (da_cons (d_var 1) (da_cons (d_mod (d_var 0) (d_var 1)) da_nil)))))
      (dss_one (ds_ret (d_var 0))))
  case hsp =>
    skip
    rintro ds cs Q Z ⟨a, b, rfl, h⟩ _
    show (_ : WS) (finD Q Z) [some _, some _] cs
    walk_at "go"
    refine r_while (fun m ρ cs' => ∃ a' b' : Nat, ρ = [some (.int (a' : Int)), some (.int (b' : Int))] ∧ m = b' ∧ cs' = cs ∧ Nat.gcd a' b' = Nat.gcd a b) ⟨b, a, b, rfl, rfl, rfl, rfl⟩ ?_
    rintro m ρ cs' N ⟨a', b', rfl, hm, rfl, hg⟩ hN
    walk_at "go"
    refine ⟨fun hk => ?_, fun hk => ?_⟩
    · have hb : (b' : Int) ≠ 0 := ndecT hk
      have hb0 : (0 : Int) < b' := by omega
      walk_at "go"
      refine hN (a' % b') _ _ (by rw [hm]; exact Nat.mod_lt _ (by omega)) ⟨b', a' % b', rfl, rfl, rfl, ?_⟩
      rw [← hg, Nat.gcd_comm b', ← Nat.gcd_rec, Nat.gcd_comm]
    · have hb : (b' : Int) = 0 := ndecF hk
      have hb0 : b' = 0 := by omega
      rw [hb0]
      walk_at "go"
      rw [← hg, hb0, Nat.gcd_zero_right] at h
      exact h
def sp_is_part : DSp := fun ds cs P _ => ∃ d, ds = [d] ∧ knD d = true ∧ P (.bl (partD d)) cs
theorem sc_is_part : FnScope ["thing", "above", "below"] ["thing"] (defScope s_is_part) := ⟨rfl, rfl, rfl, by decide +kernel, rfl, by decide +kernel, by decide +kernel⟩
theorem ok_is_part {P : Program} {w : World} {K : PySem.W.Frag} {mg : Str → Option Value} {base : Heap} (T : Txt K mg base) : FnOk P w K mg base (L2.CX P w) 2 (He.ga K "is_part") T.fd_is_part ["thing"] (spL K 1 sp_is_part) := by
  apply ok_def (k := 1) T.F_is_part sc_is_part
  case hb =>
    intro cdv A outer s H E hr
    exact (dss_cons (ds_if (dt_w (dw_or (dt_not (dt_val (d_callB call_isi adq_isi rfl T.n_isinstance (by decide +kernel) (da_cons (d_var 0) (da_cons (d_ty (n := "tuple") rfl T.n_tuple (by decide +kernel)) da_nil))))) (dw_or1 (dt_ne hr.units (d_callB call_len_seq adq_len rfl T.n_len (by decide +kernel) (da_cons (d_var 0) da_nil)) d_int)))) (dss_one (ds_ret d_bl)) dss_nil)
      (dss_cons (ds_asg (d_var 0) (dg_tup (n := 2) rfl (dgs_cons (dg_name (i := 1) sc_is_part.nd rfl (Or.inl rfl)) (dgs_cons (dg_name (i := 2) sc_is_part.nd rfl (Or.inl rfl)) dgs_nil))))
      (dss_one (ds_ret (d_and (d_callN (ok_is_whole T) (hr.mono (by decide)) rfl T.g_is_whole T.F_is_whole.kp (b_is_whole T) takesD (da_cons (d_var 1) da_nil)) (d_and (d_callN (ok_is_whole T) (hr.mono (by decide)) rfl T.g_is_whole T.F_is_whole.kp (b_is_whole T) takesD (da_cons (d_var 2) da_nil)) (d_and (d_gt (d_var 2) d_int) (d_one (d_eq hr.units (d_callN (ok_common T) (hr.mono (by decide)) rfl T.g_common T.F_common.kp (b_common T) takesD (da_cons (d_callB call_abs adq_abs rfl T.n_abs (by decide +kernel) (da_cons (d_var 1) da_nil)) (da_cons (d_var 2) da_nil))) d_int)))))))))
  case hsp =>
    skip
    rintro ds cs Q Z ⟨d, rfl, hk, h⟩ _
    show (_ : WS) (finD Q Z) [some _, none, none] cs
    cases d <;> try first
      | (simp [knD] at hk; done)
      | (walk_at "go"; exact h)
    rename_i xs hlen
    by_cases hl : xs.length = 2
    case neg =>
      rw [partD_len hl] at h
      walk_at "go"
      refine ⟨fun hk2 => ?_, fun hk2 => absurd (show xs.length = 2 by have := ndecF hk2; omega) hl⟩
      walk_at "go"
      exact h
    case pos =>
      obtain ⟨x, y, rfl⟩ : ∃ x y, xs = [x, y] := by
        cases xs with
        | nil => cases hl
        | cons x xs => cases xs with
          | nil => cases hl
          | cons y xs => cases xs with
            | nil => exact ⟨x, y, rfl⟩
            | cons _ _ => simp at hl
      have kx : knD x = true := knL_mem (show knL [x, y] = true from hk) (by simp)
      have ky : knD y = true := knL_mem (show knL [x, y] = true from hk) (by simp)
      walk_at "go"
      refine ⟨fun hk2 => absurd hk2 (by simp), fun _ => ?_⟩
      walk_at "go"
      refine ⟨x, rfl, kx, ?_⟩
      by_cases hx : ∃ a, x = .int a
      case neg =>
        have e : wholeD x = false := by cases x <;> first | rfl | exact absurd ⟨_, rfl⟩ hx
        have e2 : partD (.tup [x, y]) = false := by unfold partD; split <;> first | rfl | (rename_i q; cases q; exact absurd ⟨_, rfl⟩ hx)
        rw [e]
        rw [e2] at h
        walk_at "go"
        exact h
      case pos =>
        obtain ⟨a, rfl⟩ := hx
        rw [show wholeD (.int a) = true from rfl]
        walk_at "go"
        refine ⟨y, rfl, ky, ?_⟩
        by_cases hy : ∃ b, y = .int b
        case neg =>
          have e : wholeD y = false := by cases y <;> first | rfl | exact absurd ⟨_, rfl⟩ hy
          have e2 : partD (.tup [.int a, y]) = false := by unfold partD; split <;> first | rfl | (rename_i q; cases q; exact absurd ⟨_, rfl⟩ hy)
          rw [e]
          rw [e2] at h
          walk_at "go"
          exact h
        case pos =>
          obtain ⟨b, rfl⟩ := hy
          rw [show wholeD (.int b) = true from rfl]
          walk_at "go"
          refine ⟨fun hb => ?_, fun hb => ?_⟩
          · have hb0 := decT hb
            have hn : b = (b.natAbs : Int) := by omega
            walk_at "go"
            rw [abs_nat]
            refine ⟨a.natAbs, b.natAbs, by rw [← hn], ?_⟩
            walk_at "go"
            have e : partD (.tup [.int a, .int b]) = decide ((Nat.gcd a.natAbs b.natAbs : Int) = 1) := by
              show (decide (0 < b) && decide (Nat.gcd a.natAbs b.natAbs = 1)) = _
              rw [decide_eq_true hb0, Bool.true_and]
              exact decide_eq_decide.mpr ⟨fun z => by omega, fun z => by omega⟩
            rw [e] at h
            exact h
          · have hb0 := decF hb
            have e : partD (.tup [.int a, .int b]) = false := by
              show (decide (0 < b) && decide (Nat.gcd a.natAbs b.natAbs = 1)) = _
              rw [decide_eq_false hb0, Bool.false_and]
            rw [e] at h
            walk_at "go"
            exact h
def sp_part_text : DSp := fun ds cs P _ => ∃ r : Rat, ds = [dR r] ∧ Sz 1900 r ∧ P (.str (txtR r)) cs
theorem r_part_text {r : Rat} {cs : Cs} {P : DP} {Z : XZ} (hs : Sz 1900 r) (h : P (.str (txtR r)) cs) : sp_part_text [dR r] cs P Z := ⟨r, rfl, hs, h⟩
theorem sc_part_text : FnScope ["one", "above", "below"] ["one"] (defScope s_part_text) := ⟨rfl, rfl, rfl, by decide +kernel, rfl, by decide +kernel, by decide +kernel⟩
theorem ok_part_text {P : Program} {w : World} {K : PySem.W.Frag} {mg : Str → Option Value} {base : Heap} (T : Txt K mg base) : FnOk P w K mg base (L2.CX P w) 1 (He.ga K "part_text") T.fd_part_text ["one"] (spL K 1 sp_part_text) := by
  apply ok_def (k := 0) T.F_part_text sc_part_text
  case hb =>
    intro cdv A outer s H E hr
    exact (dss_cons (ds_asg (d_var 0) (dg_tup (n := 2) rfl (dgs_cons (dg_name (i := 1) sc_part_text.nd rfl (Or.inl rfl)) (dgs_cons (dg_name (i := 2) sc_part_text.nd rfl (Or.inl rfl)) dgs_nil))))
      (dss_one (ds_ret (d_if (dt_eq hr.units (d_var 2) d_int) (d_callTy call_str_int adq_strI rfl T.n_str (by decide +kernel) (da_cons (d_var 1) da_nil)) (d_joined (.cons (d_fmt (d_var 1)) (.cons d_str (.cons (d_fmt (d_var 2)) .nil))))))))
  case hsp =>
    skip
    rintro ds cs Q Z ⟨r, rfl, hs, h⟩ _
    have hd : ((r.den : Int)).natAbs < 2 ^ 1900 := by rw [Int.natAbs_natCast]; exact hs.2
    have l1 := log_of hs.1 (Nat.le_refl _)
    have l2 := log_of hd (Nat.le_refl _)
    have n1 := numT_sz hs.1
    have n2 := numT_sz hd
    unfold txtR at h
    have e0 : ∀ x : Str, Str.empty ++ x = x := fun x => TL.ext_tl (by rw [TL.tl_append]; rfl)
    show (_ : WS) (finD Q Z) [some _, none, none] cs
    unfold dR
    walk_at "GO"
    by_cases hd : (r.den : Int) = 1
    · refine r_pos hd ?_
      rw [if_pos hd] at h
      walk_at "GO"
      exact ⟨l1, h⟩
    · refine r_neg_ hd ?_
      rw [if_neg hd] at h
      walk_at "GO"
      refine ⟨l1, ?_⟩
      walk_at "GO"
      refine ⟨by rw [e0]; show (numT r.num).length ≤ _; omega, ?_⟩
      walk_at "GO"
      rw [e0]
      refine ⟨by rw [TL.len_tl, TL.tl_append, List.length_append]; show (TL.tl (numT r.num)).length + 1 ≤ _; rw [← TL.len_tl]; omega, ?_⟩
      walk_at "GO"
      refine ⟨l2, ?_⟩
      walk_at "GO"
      refine ⟨by rw [TL.len_tl, TL.tl_append, List.length_append, TL.tl_append, List.length_append]; show (TL.tl (numT r.num)).length + 1 + (TL.tl (numT (r.den : Int))).length ≤ _; rw [← TL.len_tl, ← TL.len_tl]; omega, ?_⟩
      walk_at "GO"
      exact h
local macro_rules | `(tactic| walk_at "cl") => `(tactic| (first | ((with_reducible apply r_part_text); (walk_at "sz"))))
def sp_read_part : DSp := fun ds cs P Z => ∃ z : Str, ds = [.str z] ∧ z.length ≤ 90000 ∧ (∀ r, IsRT z r → P (dR r) cs) ∧ ((∀ r, ¬ IsRT z r) → Z (exnF "BadText" "at" (.int 0)) cs)
theorem sc_read_part : FnScope ["text", "above", "mark", "below", "found"] ["text"] (defScope s_read_part) := ⟨rfl, rfl, rfl, by decide +kernel, rfl, by decide +kernel, by decide +kernel⟩
theorem ok_read_part {P : Program} {w : World} {K : PySem.W.Frag} {mg : Str → Option Value} {base : Heap} (T : Txt K mg base) : FnOk P w K mg base (L2.CX P w) 6 (He.ga K "read_part") T.fd_read_part ["text"] (spL K 1 sp_read_part) := by
  apply ok_def (k := 5) T.F_read_part sc_read_part
  case hb =>
    intro cdv A outer s H E hr
    exact (dss_cons (ds_asg (d_partn (d_var 0) d_str) (dg_tup (n := 3) rfl (dgs_cons (dg_name (i := 1) sc_read_part.nd rfl (Or.inl rfl)) (dgs_cons (dg_name (i := 2) sc_read_part.nd rfl (Or.inl rfl)) (dgs_cons (dg_name (i := 3) sc_read_part.nd rfl (Or.inl rfl)) dgs_nil)))))
      (dss_cons (ds_set (i := 4) sc_read_part.nd rfl (Or.inl rfl) (d_tup (da_cons (d_callD (dds := [.int 200]) (ok_number_in T) (hr.mono (by decide)) rfl T.g_number_in T.F_number_in.kp (bp_number_in_1 T) (fun _ => (RepL.cons (.int _) RepL.nil)) takesD (da_cons (d_var 1) da_nil)) (da_cons (d_if (dt_ne hr.units (d_var 2) d_str) (d_callD (dds := [.int 200]) (ok_figures_in T) (hr.mono (by decide)) rfl T.g_figures_in T.F_figures_in.kp (bp_figures_in_1 T) (fun _ => (RepL.cons (.int _) RepL.nil)) takesD (da_cons (d_var 3) da_nil)) d_int) da_nil))))
      (dss_cons (ds_if (dt_w (dw_or (dt_not (dt_val (d_callN (ok_is_part T) (hr.mono (by decide)) rfl T.g_is_part T.F_is_part.kp (b_is_part T) takesD (da_cons (d_var 4) da_nil)))) (dw_or1 (dt_ne hr.units (d_callN (ok_part_text T) (hr.mono (by decide)) rfl T.g_part_text T.F_part_text.kp (b_part_text T) takesD (da_cons (d_var 4) da_nil)) (d_var 0))))) (dss_one (ds_raise0 (dds := [.int 0]) rfl takesD T.x_BadText.x T.x_BadText.ini T.x_BadText.ty (ok_i_BadText T) (hr.mono (by decide)) (bq_i_BadText T).2 (bq_i_BadText T).1 (fun _ => .cons (.int _) .nil) rfl (fld1 (fl := "at") (by decide)) rfl T.g_BadText)) dss_nil)
      (dss_one (ds_ret (d_var 4))))))
  case hsp =>
    skip
    rintro ds cs Q Z ⟨z, rfl, hzl, h, hn⟩ _
    show (_ : WS) (finD Q Z) [some _, none, none, none, none] cs
    walk_at "GO"
    refine r_partn (by decide) (by omega) ?_
    by_cases hs : 47 ∈ TL.tl z
    case neg =>
      rw [TL.partition_none slash hs]
      dsimp only
      walk_at "GO"
      refine ⟨z, 200, rfl, by omega, by decide, fun i hi => ?_, fun no => hn fun r hr => no _ (rt_none hs hr).2⟩
      have hf := int_fig (numF_val hi)
      have hsz := hf.sz
      walk_at "GO"
      refine r_npos (show Str.empty = Str.ofString "" by decide +kernel) ?_
      walk_at "GO"
      rw [show D.tup [.int i, .int 1] = dR (i : Rat) from rfl]
      refine ⟨dR (i : Rat), rfl, rfl, ?_⟩
      rw [partD_dR]
      walk_at "GO"
      by_cases he : txtR (i : Rat) = z
      · refine r_npos he ?_
        walk_at "GO"
        exact h _ ⟨hf, he.symm⟩
      · refine r_nneg he ?_
        walk_at "GO"
        refine hn fun r hr => he ?_
        obtain ⟨d1, d2⟩ := rt_none hs hr
        rw [hi.uniq d2, hr.2]
        congr 1
        exact Rat.ext rfl (Int.ofNat.inj d1).symm
    obtain ⟨a, b, rfl, ha⟩ := cut_slash z hs
    rw [TL.partition_app slash ha]
    dsimp only
    have hal : a.length ≤ 90000 ∧ b.length ≤ 90000 := by
      rw [TL.len_tl, TL.tl_append, List.length_append, TL.tl_append, List.length_append] at hzl
      have q1 := TL.len_tl a
      have q2 := TL.len_tl b
      omega
    walk_at "GO"
    refine ⟨a, 200, rfl, by omega, by decide, fun i hi => ?_, fun no => hn fun r hr => no _ (rt_some ha hr).1⟩
    walk_at "GO"
    refine r_nneg (show ¬ Str.ofString "/" = Str.ofString "" by decide +kernel) ?_
    walk_at "GO"
    refine ⟨b, 200, rfl, by omega, by decide, fun hb => ?_, fun no => hn fun r hr => no (rt_some ha hr).2.1⟩
    have hbv := fig_val hb
    have hiv := numF_val hi
    have hd1 : ∀ r, IsRT (a ++ "/" ++ b) r → D.tup [.int i, .int ((NumText.digitsVal (TL.tl b) : Nat) : Int)] = dR r := fun r hr => by
      obtain ⟨d1, d2, d3⟩ := rt_some ha hr
      rw [hi.uniq d1, d3]; rfl
    generalize NumText.digitsVal (TL.tl b) = k at hbv hd1
    walk_at "GO"
    refine ⟨_, rfl, rfl, ?_⟩
    cases hp : partD (D.tup [.int i, .int (k : Int)]) with
    | false =>
      walk_at "GO"
      refine hn fun r hr => ?_
      rw [hd1 r hr, partD_dR] at hp
      cases hp
    | true =>
      obtain ⟨r, hr⟩ := partD_inv hp
      have e1 : i = r.num := by injection hr with e; injection e with e1 e2; injection e1
      have e2 : k = r.den := by injection hr with e; injection e with e1 e2; injection e2 with e2 _; injection e2 with e2; exact Int.ofNat.inj e2
      have hf : Fig200 r := ⟨by rw [← e1]; exact hiv, by rw [← e2]; exact hbv⟩
      have hsz := hf.sz
      rw [hr]
      walk_at "GO"
      by_cases he : txtR r = a ++ "/" ++ b
      · refine r_npos he ?_
        walk_at "GO"
        exact h _ ⟨hf, he.symm⟩
      · refine r_nneg he ?_
        walk_at "GO"
        refine hn fun r2 hr2 => he ?_
        have := hd1 r2 hr2
        rw [hr] at this
        rw [hr2.2, dR_inj this]
def sp_law_read : DSp := fun ds cs P _ => ∃ z : Str, ds = [.str z] ∧ z.length ≤ 90000 ∧ (∀ r, IsRT z r → P (.tup [dR r, .non]) cs) ∧ ((∀ r, ¬ IsRT z r) → P (.tup [.non, .int 0]) cs)
theorem sc_law_read : FnScope ["_law_text_here", "_law_told", "_law_at", "e"] ["_law_text_here"] (defScope s_law_read) := ⟨rfl, rfl, rfl, by decide +kernel, rfl, by decide +kernel, by decide +kernel⟩
theorem ok_law_read {P : Program} {w : World} {K : PySem.W.Frag} {mg : Str → Option Value} {base : Heap} (T : Txt K mg base) : FnOk P w K mg base (L2.CX P w) 7 (He.ga K "_law_read") T.fd_law_read ["_law_text_here"] (spL K 1 sp_law_read) := by
  apply ok_def (k := 6) T.F_law_read sc_law_read
  case hb =>
    intro cdv A outer s H E hr
    exact (dss_cons (ds_asg (d_tup (da_cons d_non (da_cons d_non da_nil))) (dg_tup (n := 2) rfl (dgs_cons (dg_name (i := 1) sc_law_read.nd rfl (Or.inl rfl)) (dgs_cons (dg_name (i := 2) sc_law_read.nd rfl (Or.inl rfl)) dgs_nil))))
      (dss_cons (ds_tryF (L := ["BadText"]) (i := 3) (j := 2) rfl rfl sc_law_read.nd takesD (fun W1 pn xe tk1 => (dss_one (ds_set (i := 1) sc_law_read.nd rfl (Or.inl rfl) (d_callN (ok_read_part T) (hr.mono (by decide)) rfl T.g_read_part T.F_read_part.kp (b_read_part T) tk1 (da_cons (d_var 0) da_nil))))) ⟨rfl, by decide, .inl T.g_BadText⟩ rfl rfl rfl rfl rfl (by decide) (by decide) (by decide) T.xlost)
      (dss_one (ds_ret (d_tup (da_cons (d_var 1) (da_cons (d_var 2) da_nil)))))))
  case hsp =>
    skip
    rintro ds cs Q Z ⟨z, rfl, hz, h, hn⟩ _
    show (_ : WS) (finD Q Z) [some _, none, none, none] cs
    walk_at "GO"
    refine r_tryF ?_
    walk_at "GO"
    refine ⟨z, rfl, hz, fun r hr => ?_, fun no => ?_⟩
    · walk_at "GO"
      exact h r hr
    · refine ⟨List.mem_singleton.mpr rfl, by show 3 < 4; decide, _, rfl, ?_⟩
      walk_at "GO"
      exact hn no
def nines : Str := ⟨(List.replicate 201 57).toArray⟩
def oddL : List Str := ["", "-", "/", "1/", "/2", "2/4", "1/1", "-0", "00", "01", "+1", "1/0", "1/-2", "--1", "1 ", " 1", "1/02", "0/1", "0/3", "1/2/3", nines, Str.ofString "1/" ++ nines, "1\n", "a"]
theorem oddL_ok : (oddL.all fun x => noRT x && decide (x.length ≤ 90000)) = true := by decide +kernel
theorem nine_sgn : D.str (Str.ofString "9") = sgn 57 := congrArg D.str (by decide +kernel)
theorem sc_law : FnScope ["_law_script", "_law_bag_here", "_law_turn", "_law_text_here", "_law_step", "_law_due", "_law_odd"] ["_law_script"] (defScope s_law) := ⟨rfl, rfl, rfl, by decide +kernel, rfl, by decide +kernel, by decide +kernel⟩
theorem ok_law {P : Program} {w : World} {K : PySem.W.Frag} {mg : Str → Option Value} {base : Heap} (T : Txt K mg base) : FnOk P w K mg base (L2.CX P w) 8 (He.ga K "law") T.fd_law ["_law_script"] (spL K 1 (sp_law K)) := by
  apply ok_def (k := 7) T.F_law sc_law
  case hb =>
    intro cdv A outer s H E hr
    exact (dss_cons (ds_set (i := 1) sc_law.nd rfl (Or.inl rfl) (d_callN (ok_law_bag T) (hr.mono (by decide)) rfl T.g_law_bag T.F_law_bag.kp (b_law_bag T) takesD (da_cons (d_var 0) da_nil)))
      (dss_cons (ds_for passD rfl (di_range1 rfl T.n_range (da_cons d_int da_nil)) (dg_name (i := 2) sc_law.nd rfl (Or.inl rfl)) (dss_cons (ds_set (i := 3) sc_law.nd rfl (Or.inl rfl) (d_callN (ok_law_text T) (hr.mono (by decide)) rfl T.g_law_text T.F_law_text.kp (b_law_text T) takesD (da_cons (d_callN (ok_law_some_part T) (hr.mono (by decide)) rfl T.g_law_some_part T.F_law_some_part.kp (b_law_some_part T) takesD (da_cons (d_var 1) da_nil)) da_nil)))
      (dss_cons (ds_for passD rfl (di_range1 rfl T.n_range (da_cons (d_callN (ok_law_get T) (hr.mono (by decide)) rfl T.g_law_get T.F_law_get.kp (b_law_get T) takesD (da_cons (d_var 1) (da_cons d_int da_nil))) da_nil)) (dg_name (i := 4) sc_law.nd rfl (Or.inl rfl)) (dss_one (ds_set (i := 3) sc_law.nd rfl (Or.inl rfl) (d_callN (ok_law_bent_text T) (hr.mono (by decide)) rfl T.g_law_bent_text T.F_law_bent_text.kp (b_law_bent_text T) takesD (da_cons (d_var 1) (da_cons (d_var 3) da_nil))))))
      (dss_cons (ds_set (i := 5) sc_law.nd rfl (Or.inl rfl) (d_callN (ok_law_part_in T) (hr.mono (by decide)) rfl T.g_law_part_in T.F_law_part_in.kp (b_law_part_in T) takesD (da_cons (d_var 3) da_nil)))
      (dss_one (ds_if (dt_not (dt_val (d_callN (ok_law_same T 6) (hr.mono (by decide)) rfl T.g_law_same T.F_law_same.kp (b_law_same T) takesD (da_cons (d_callN (ok_law_read T) (hr.mono (by decide)) rfl T.g_law_read T.F_law_read.kp (b_law_read T) takesD (da_cons (d_var 3) da_nil)) (da_cons (d_tup (da_cons (d_var 5) (da_cons (d_if (dt_is (d_var 5) d_non) d_int d_non) da_nil))) da_nil))))) (dss_one (ds_ret d_bl)) dss_nil))))))
      (dss_cons (ds_set (i := 6) sc_law.nd rfl (Or.inl rfl) (d_lst (da_cons d_str (da_cons d_str (da_cons d_str (da_cons d_str (da_cons d_str (da_cons d_str (da_cons d_str (da_cons d_str (da_cons d_str (da_cons d_str (da_cons d_str (da_cons d_str (da_cons d_str (da_cons d_str (da_cons d_str (da_cons d_str (da_cons d_str (da_cons d_str da_nil))))))))))))))))))))
      (dss_cons (ds_set (i := 6) sc_law.nd rfl (Or.inl rfl) (d_catL (d_var 6) (d_lst (da_cons d_str (da_cons d_str (da_cons (d_mulS d_str d_int) (da_cons (d_catS d_str (d_mulS d_str d_int)) (da_cons d_str (da_cons d_str da_nil)))))))))
      (dss_one (ds_ret (d_callB (cr_all rfl) adq_all rfl T.n_all (by decide +kernel) (da_cons (d_lc rfl sc_law.nd (di_list (d_var 6)) (blkOk_by (own := [("_law_text_here", 3)]) (N := ["_law_script", "_law_bag_here", "_law_turn", "_law_text_here", "_law_step", "_law_due", "_law_odd"]) (sc := defScope s_law) (by decide +kernel)) (gok_name (by decide)) (fun _ _ _ _ _ => (pg_name (i := 3) sc_law.nd rfl (Or.inl rfl))) (fun _ _ _ _ _ => dts_nil) (fun _ _ _ _ _ => (d_callN (ok_law_same T 6) (hr.mono (by decide)) rfl T.g_law_same T.F_law_same.kp (b_law_same T) takes0 (da_cons (d_callN (ok_law_read T) (hr.mono (by decide)) rfl T.g_law_read T.F_law_read.kp (b_law_read T) takes0 (da_cons (d_var 3) da_nil)) (da_cons (d_tup (da_cons d_non (da_cons d_int da_nil))) da_nil))))) da_nil))))))))
  case hsp =>
    skip
    rintro ds cs Q Z ⟨ns, rfl, hl, hcs, h⟩ _
    show (_ : WS) (finD Q Z) [some _, none, none, none, none, none, none] cs
    subst hcs
    walk_at "GO"
    refine ⟨ns, rfl, fun p b hp hb => ?_⟩
    have hbag : BagIn p ((p, b) :: tbls (tbD K)) := ⟨b, by simp [look], hb⟩
    walk_at "GO"
    refine ⟨by decide, ?_⟩
    refine r_loop0 (fun i ρ cs' => ∃ (c2 c3 c4 c5 c6 : Option D), ρ = [some (.lst (ns.map D.int)), some (.opq (.ref p)), c2, c3, c4, c5, c6] ∧ BagIn p cs') ⟨_, _, _, _, _, rfl, hbag⟩ ?_ ?_
    · rintro i d ρ ca N hd ⟨c2, c3, c4, c5, c6, rfl, hb1⟩ hN
      walk_at "GO"
      intro r cb hr st1
      have hb2 := st1.bag
      clear st1
      have hlr : (txtR r).length ≤ 2000 := by
        have n1 := numT_sz (hr.mono (by decide) : Sz 1900 r).1
        have n2 := numT_sz (show ((r.den : Int)).natAbs < 2 ^ 1900 by rw [Int.natAbs_natCast]; exact (hr.mono (by decide) : Sz 1900 r).2)
        unfold txtR
        split
        · omega
        · rw [len_app, len_app, show (Str.ofString "/").length = 1 from by decide +kernel]; omega
      walk_at "GO"
      intro k cc k0 k1 st2
      have hb3 := st2.bag
      clear st2
      walk_at "GO"
      refine ⟨⟨by omega, by omega⟩, ?_⟩
      refine r_loop0 (fun i ρ cs' => ∃ (c2 c4 c5 c6 : Option D) (z : Str), ρ = [some (.lst (ns.map D.int)), some (.opq (.ref p)), c2, some (.str z), c4, c5, c6] ∧ z.length ≤ 2000 + i ∧ BagIn p cs') ⟨_, _, _, _, _, rfl, ⟨hlr, hb3⟩⟩ ?_ ?_
      · rintro j d2 ρ cd N2 hd2 ⟨c2, c4, c5, c6, z, rfl, ⟨hz, hb4⟩⟩ hN2
        have hj : j < 3 := by
          have := (List.getElem?_eq_some_iff.mp hd2).1
          unfold rngD at this
          rw [List.length_map, List.length_range] at this
          omega
        walk_at "GO"
        intro y ce hy st3
        exact hN2 _ _ ⟨_, _, _, _, y, rfl, ⟨by omega, st3.bag⟩⟩
      rintro ρ cd ⟨c2, c4, c5, c6, z, rfl, ⟨hz, hb4⟩⟩
      have hz9 : z.length ≤ 90000 := by
        unfold rngD at hz
        rw [List.length_map, List.length_range] at hz
        omega
      walk_at "GO"
      refine ⟨z, rfl, hz9, fun r hr => ?_, fun no => ?_⟩
      · walk_at "GO"
        refine ⟨z, rfl, hz9, fun r2 hr2 => ?_, fun no => absurd hr (no r)⟩
        obtain rfl := isRT_uniq hr hr2
        walk_at "GO"
        refine r_isF rfl ?_
        walk_at "GO"
        exact hN _ _ ⟨_, _, _, _, _, rfl, hb4⟩
      · walk_at "GO"
        refine ⟨z, rfl, hz9, fun r2 hr2 => absurd hr2 (no r2), fun _ => ?_⟩
        walk_at "GO"
        refine r_isT rfl ?_
        walk_at "GO"
        exact hN _ _ ⟨_, _, _, _, _, rfl, hb4⟩
    rintro ρ ca ⟨c2, c3, c4, c5, c6, rfl, hb1⟩
    walk_at "GO"
    have hm : ∀ {P : DP} {cs : Cs}, P (.str nines) cs → oMulS (D.str (Str.ofString "9")) (D.int 201) cs P := fun h => ⟨57, 201, nine_sgn, rfl, by decide, by decide, h⟩
    refine hm ?_
    walk_at "GO"
    refine hm ?_
    walk_at "GO"
    refine ⟨by show 24 ≤ 100000; decide, ?_⟩
    refine r_cmE (l := oddL) (g := D.str) rfl (fun _ => .bl true) (fun x M M' hx hM => ?_) ?_
    · have ho := List.all_eq_true.mp oddL_ok x hx
      rw [Bool.and_eq_true] at ho
      obtain ⟨o1, o2⟩ := ho
      have o2 := of_decide_eq_true o2
      walk_at "GO"
      refine ⟨x, rfl, o2, fun r hr => absurd hr (noRT_ok o1 r), fun _ => ?_⟩
      walk_at "GO"
      exact hM
    refine r_nil ?_
    refine r_all (ns := oddL.map fun _ => true) rfl ?_
    rw [show (oddL.map fun _ => true).all id = true from rfl]
    exact h _
theorem tb_at {K : PySem.W.Frag} {H : Hp} (hT : ∀ p ∈ tfD.map (He.cT K), H p.2 = some (.tbl #[])) : ∀ p ∈ tbD K, H p.1 = some (.tbl #[]) := by
  intro p hp
  have z : p.1 ∈ tfD.map fun q => (He.cT K q).2 := (show (tbD K).map (·.1) = tfD.map (fun q => (He.cT K q).2) from rfl) ▸ List.mem_map.mpr ⟨p, hp, rfl⟩
  obtain ⟨q, hq, e⟩ := List.mem_map.mp z
  rw [← e]
  exact hT _ (List.mem_map.mpr ⟨q, hq, rfl⟩)
theorem facts {K : PySem.W.Frag} {h base : Heap} {mg : Str → Option Value} {w : World} (X : K.In h) (G : h.Ns mainGlobals mg) (cx : He.SaysX faD fnD [] tfD exB w h K) (TB : ∀ p ∈ tfD, LamX.TabB base mg (He.cT K p).1 (He.cT K p).2) : Nonempty (Txt K mg base) := by
  have c : He.SaysD faD fnD K := cx.t.d
  obtain ⟨ex1, ex2⟩ := Bool.and_eq_true_iff.mp cx.more
  obtain ⟨ex3, ex4⟩ := Bool.and_eq_true_iff.mp ex2
  obtain ⟨fd_law_bag, F_law_bag⟩ := c.def_ 0 (d := dd_law_bag) rfl
  obtain ⟨fd_law_text, F_law_text⟩ := c.def_ 1 (d := dd_law_text) rfl
  obtain ⟨fd_law_gcd, F_law_gcd⟩ := c.def_ 2 (d := dd_law_gcd) rfl
  obtain ⟨fd_law_part, F_law_part⟩ := c.def_ 3 (d := dd_law_part) rfl
  obtain ⟨fd_law_part_in, F_law_part_in⟩ := c.def_ 4 (d := dd_law_part_in) rfl
  obtain ⟨fd_law_get, F_law_get⟩ := c.def_ 5 (d := dd_law_get) rfl
  obtain ⟨fd_law_far, F_law_far⟩ := c.def_ 6 (d := dd_law_far) rfl
  obtain ⟨fd_law_number, F_law_number⟩ := c.def_ 7 (d := dd_law_number) rfl
  obtain ⟨fd_law_some_part, F_law_some_part⟩ := c.def_ 8 (d := dd_law_some_part) rfl
  obtain ⟨fd_law_pick, F_law_pick⟩ := c.def_ 9 (d := dd_law_pick) rfl
  obtain ⟨fd_law_bent_text, F_law_bent_text⟩ := c.def_ 10 (d := dd_law_bent_text) rfl
  obtain ⟨fd_law_same, F_law_same⟩ := c.def_ 11 (d := dd_law_same) rfl
  obtain ⟨fd_figures_in, F_figures_in⟩ := c.def_ 12 (d := dd_figures_in) rfl
  obtain ⟨fd_number_in, F_number_in⟩ := c.def_ 13 (d := dd_number_in) rfl
  obtain ⟨fd_is_whole, F_is_whole⟩ := c.def_ 14 (d := dd_is_whole) rfl
  obtain ⟨fd_common, F_common⟩ := c.def_ 15 (d := dd_common) rfl
  obtain ⟨fd_is_part, F_is_part⟩ := c.def_ 16 (d := dd_is_part) rfl
  obtain ⟨fd_part_text, F_part_text⟩ := c.def_ 17 (d := dd_part_text) rfl
  obtain ⟨fd_read_part, F_read_part⟩ := c.def_ 18 (d := dd_read_part) rfl
  obtain ⟨fd_law_read, F_law_read⟩ := c.def_ 19 (d := dd_law_read) rfl
  obtain ⟨fd_law, F_law⟩ := c.def_ 20 (d := dd_law) rfl
  obtain ⟨fd_i_CutError, F_i_CutError⟩ := c.def_ 21 (d := dd_i_CutError) rfl
  obtain ⟨fd_i_BadText, F_i_BadText⟩ := c.def_ 22 (d := dd_i_BadText) rfl
  exact ⟨{ g_CutError := He.glo_ok X G (c.fact 33 (f := .glo "CutError") rfl), g_BadText := He.glo_ok X G (c.fact 34 (f := .glo "BadText") rfl), x_CutError := DL.xclassB_ok (List.all_eq_true.mp ex1 (.v, "CutError") (by decide)), fd_i_CutError := fd_i_CutError, F_i_CutError := F_i_CutError, x_BadText := DL.xclassB_ok (List.all_eq_true.mp ex1 (.v, "BadText") (by decide)), fd_i_BadText := fd_i_BadText, F_i_BadText := F_i_BadText, n_ValueError := He.free_ok X G (c.fact 35 (f := .free "ValueError") rfl), xlost := DL.lost_ok (Bool.and_eq_true_iff.mp ex3).2, fd_law_bag := fd_law_bag, F_law_bag := F_law_bag, g_law_bag := He.glo_ok X G (c.fact 0 (f := .glo "_law_bag") rfl), fd_law_text := fd_law_text, F_law_text := F_law_text, g_law_text := He.glo_ok X G (c.fact 1 (f := .glo "_law_text") rfl), fd_law_gcd := fd_law_gcd, F_law_gcd := F_law_gcd, g_law_gcd := He.glo_ok X G (c.fact 2 (f := .glo "_law_gcd") rfl), fd_law_part := fd_law_part, F_law_part := F_law_part, g_law_part := He.glo_ok X G (c.fact 3 (f := .glo "_law_part") rfl), fd_law_part_in := fd_law_part_in, F_law_part_in := F_law_part_in, g_law_part_in := He.glo_ok X G (c.fact 4 (f := .glo "_law_part_in") rfl), fd_law_get := fd_law_get, F_law_get := F_law_get, g_law_get := He.glo_ok X G (c.fact 5 (f := .glo "_law_get") rfl), fd_law_far := fd_law_far, F_law_far := F_law_far, g_law_far := He.glo_ok X G (c.fact 6 (f := .glo "_law_far") rfl), fd_law_number := fd_law_number, F_law_number := F_law_number, g_law_number := He.glo_ok X G (c.fact 7 (f := .glo "_law_number") rfl), fd_law_some_part := fd_law_some_part, F_law_some_part := F_law_some_part, g_law_some_part := He.glo_ok X G (c.fact 8 (f := .glo "_law_some_part") rfl), fd_law_pick := fd_law_pick, F_law_pick := F_law_pick, g_law_pick := He.glo_ok X G (c.fact 9 (f := .glo "_law_pick") rfl), fd_law_bent_text := fd_law_bent_text, F_law_bent_text := F_law_bent_text, g_law_bent_text := He.glo_ok X G (c.fact 10 (f := .glo "_law_bent_text") rfl), fd_law_same := fd_law_same, F_law_same := F_law_same, g_law_same := He.glo_ok X G (c.fact 11 (f := .glo "_law_same") rfl), fd_figures_in := fd_figures_in, F_figures_in := F_figures_in, g_figures_in := He.glo_ok X G (c.fact 12 (f := .glo "figures_in") rfl), fd_number_in := fd_number_in, F_number_in := F_number_in, g_number_in := He.glo_ok X G (c.fact 13 (f := .glo "number_in") rfl), fd_is_whole := fd_is_whole, F_is_whole := F_is_whole, g_is_whole := He.glo_ok X G (c.fact 14 (f := .glo "is_whole") rfl), fd_common := fd_common, F_common := F_common, g_common := He.glo_ok X G (c.fact 15 (f := .glo "common") rfl), fd_is_part := fd_is_part, F_is_part := F_is_part, g_is_part := He.glo_ok X G (c.fact 16 (f := .glo "is_part") rfl), fd_part_text := fd_part_text, F_part_text := F_part_text, g_part_text := He.glo_ok X G (c.fact 17 (f := .glo "part_text") rfl), fd_read_part := fd_read_part, F_read_part := F_read_part, g_read_part := He.glo_ok X G (c.fact 18 (f := .glo "read_part") rfl), fd_law_read := fd_law_read, F_law_read := F_law_read, g_law_read := He.glo_ok X G (c.fact 19 (f := .glo "_law_read") rfl), fd_law := fd_law, F_law := F_law, g_law := He.glo_ok X G (c.fact 20 (f := .glo "law") rfl), n_abs := He.free_ok X G (c.fact 21 (f := .free "abs") rfl), n_all := He.free_ok X G (c.fact 22 (f := .free "all") rfl), n_bool := He.free_ok X G (c.fact 23 (f := .free "bool") rfl), n_dict := He.free_ok X G (c.fact 24 (f := .free "dict") rfl), n_int := He.free_ok X G (c.fact 25 (f := .free "int") rfl), n_isinstance := He.free_ok X G (c.fact 26 (f := .free "isinstance") rfl), n_len := He.free_ok X G (c.fact 27 (f := .free "len") rfl), n_list := He.free_ok X G (c.fact 28 (f := .free "list") rfl), n_range := He.free_ok X G (c.fact 29 (f := .free "range") rfl), n_str := He.free_ok X G (c.fact 30 (f := .free "str") rfl), n_tuple := He.free_ok X G (c.fact 31 (f := .free "tuple") rfl), n_zip := He.free_ok X G (c.fact 32 (f := .free "zip") rfl) }⟩
end Lw
open PySem PySem.W PySem.Calls PyProof.Rows
set_option maxRecDepth 100000 in
set_option maxHeartbeats 0 in
theorem PySem.Challenge.cw_calmcuts_k05_part_texts_refused_holds : PySem.Challenge.rw_calmcuts_k05_part_texts_refused.Holds := by
  w_on; o_law
  o_head Lw.hk2
  case hw => w_witness2
  case hc =>
    refine LamX.walk_ofTsE (l := PySem.Challenge.rw_calmcuts_k05_part_texts_refused) (n := 63) (k := 8) (x := "_law_script") (CX := fun _ => L2.CX0) rfl (by decide) (by kernel_rfl) ⟨rfl, by decide, by decide⟩ ?F (fun _ _ _ _ _ z => z)
    intro w mg fa h Y G hmg0
    obtain ⟨K, KX, c⟩ := Y
    have hmg : mg ("law" : PySem.Str) = some (.ref fa) := by
      have e : (HandSHeadRun.topDef (OpenLaw.row PySem.Challenge.rw_calmcuts_k05_part_texts_refused).prog 26).name = ("law" : PySem.Str) := by kernel_rfl
      rw [← e]
      exact hmg0
    have ef : fa = He.ga K "law" := DL.ref_inj hmg (He.glo_ok KX G (c.t.d.fact 20 (f := .glo "law") rfl))
    subst ef
    obtain ⟨fd, F⟩ := c.t.d.def_ 20 (d := Lw.dd_law) rfl
    have b := L2.FunD.bindsA (ps := ["_law_script"]) F fun _ _ _ _ _ _ us hl => match us, hl with | [_], _ => rfl
    obtain ⟨_, ex2⟩ := Bool.and_eq_true_iff.mp c.more
    obtain ⟨_, ex4⟩ := Bool.and_eq_true_iff.mp ex2
    refine ⟨K, KX, fd, Lw.tfD.map (He.cT K), (fun vs H Q _ => DL.spL K 1 (Lw.sp_law K) vs H Q fun _ _ _ => False), ?_, ?_, ?_, fun s v => b s [v] rfl, fun H a ns hl _ hT hS => DL.law_startT (ts := Lw.tbD K) (of_decide_eq_true ex4) (Lw.tb_at hT) hl hS, fun base _ _ TB => ?_⟩
    · intro p hp
      obtain ⟨q, hq, e⟩ := List.mem_map.mp hp
      subst e
      exact c.empty q hq
    · intro p hp
      obtain ⟨q, hq, e⟩ := List.mem_map.mp hp
      subst e
      exact c.out q hq
    · intro p hp
      obtain ⟨q, hq, e⟩ := List.mem_map.mp hp
      subst e
      exact PySem.W.codeHd_of_K KX (c.hd q hq)
    · obtain ⟨T⟩ := Lw.facts (base := base) KX G c (fun p hp => TB _ (List.mem_map.mpr ⟨p, hp, rfl⟩))
      rw [DL.fd_same F T.F_law]
      exact DL.calmF (Lw.ok_law T)
#print axioms PySem.Challenge.cw_calmcuts_k05_part_texts_refused_holds
