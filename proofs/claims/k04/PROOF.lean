import PyProof.Rows.All
import Wide.All
import OpenK.AllK
import Wide.FinOn
import KE.KStateDown
import Lean
import KE.DataEq
import KE.DataFind
import HandS.ForMost
import HandS.Exc
import HandS.ExcOwn
import HandS.CallSlots
import HandS.Defaults
import HandS.Wide
import HandS.IsInst
import HandS.TupAny
import HandS.Zip
import HandS.Style
import HandS.MakeKwOnly
import HandS.SortInts
import HandS.More
import HandS.WordsExc
import HandS.Lambda
import HandS.TryMany
import HandS.ExcInit
import HandS.ExcField
import HandS.HeadHook4
import HandS.HeadWalk
import HandS.Head0
import HandS.Head1
import HandS.Head2
import HandS.HeadEnd
import HandS.HeadHook1
import HandS.HeadHook2
import HandS.Dict
import HandS.DictComp
import HandS.Iter
import HandS.RevRange
import HandS.Conv
import HandS.TupMul
import HandS.Sort
import HandS.Keys
import KE.KDictCopyH
import KE.KDictSum
import HandS.TupSets
import KE.KDictWalk
import HandS.Flow
import KE.DataMinMax
import KE.SortData
import HandS.EndTab
import HandS.ClsMeth
import HandS.Text
import HandS.FStr
import HandS.Codes
import HandS.Strs
import KE.KDictZip
import KE.KItemsList
import HandS.ListItems
import PySem.Challenge.RW_calmcuts_k04_part_texts_written_and_read
import Open.Tops
set_option Elab.async false
set_option linter.all false
set_option maxRecDepth 100000
set_option maxHeartbeats 4000000

set_option maxHeartbeats 0 in
open_shared Sh for (PySem.W.OpenLaw.prog PySem.Challenge.rw_calmcuts_k04_part_texts_written_and_read) leaving 1
/-! DLHx: what the head's run looks at, of own exceptions; with the interpreter's statics. -/
namespace DL
open PySem PySem.Spec PyProof.Rows L2 LamX ClX
def oexB (K : PySem.W.Frag) (C : Addr) : Bool := (match K.lookup C with
  | some ⟨.type c, _, .cls cd, sl⟩ => decide (c = "type") && (cd.hasDict && (!cd.hasDel && (match cd.mro, sl.toList with
    | .ref C' :: bm, [_, _, _, _, some (.builtin n), _] => decide (C' = C) && (decide (n = "ValueError.__new__") && PySem.HandSPX.refsVE bm)
    | _, _ => false)))
  | _ => false) && (decide (PySem.W.findIn K (.ref C) "__setattr__" = some (some (.builtin "object.__setattr__"))) && (decide (PySem.W.subIn K (.ref C) (.type "BaseException") = some true) && (decide (PySem.W.typeIn K (.ref C) = some (.type "type")) && PySem.W.keepIn K (.ref C))))
def noAt (K : PySem.W.Frag) (C : Addr) (f : Str) : Bool := decide (PySem.W.findIn K (.ref C) f = some none)
def xcB (K : PySem.W.Frag) (C : Addr) : Bool := oexB K C && (xfB K C && (noAt K C "called" && (noAt K C "at" && (noAt K C "name" && noAt K C "what"))))
abbrev iniA (K : PySem.W.Frag) (n : Str) : Addr := He.ma K (He.ga K n) "__init__"
def cfB (K : PySem.W.Frag) (C : Addr) (m : Str) (u : Value) : Bool := match PySem.W.findCls K (.ref C) (.type "type") m with
  | some (.val v) => decide (v = u)
  | _ => false
def xclassB (K : PySem.W.Frag) (n : Str) : Bool := xcB K (He.ga K n) && (decide (PySem.W.findIn K (.ref (He.ga K n)) "__init__" = some (some (.ref (iniA K n)))) && (decide (PySem.W.typeIn K (.ref (iniA K n)) = some (.type "function")) &&
  (PySem.W.readsIn K (He.ga K n) (.type "type") && (decide (PySem.W.specialIn K (.ref (He.ga K n)) "__getattribute__" = some (some (.builtin "type.__getattribute__"))) &&
    cfB K (He.ga K n) "__init__" (.ref (iniA K n))))))
/-- n is caught by the first clause of these that it is under -/
def caughtB (K : PySem.W.Frag) (n : Str) : List Str → Bool
  | [] => false
  | c :: r => (match PySem.W.exmOne K (.ref (He.ga K n)) (.ref (He.ga K c)) with
    | some true => true
    | some false => caughtB K n r
    | none => false)
/-! ### the head's facts, the interpreter's statics among what is read -/
def asS (g : Addr → Option Obj) (n : Nat) : List Addr := He.asD g n ++ [PySem.cStatics]
abbrev frS (n : Nat) (g : Addr → Option Obj) : PySem.W.Frag := He.frT g (asS g n)
def obsS (n : Nat) (fa : List He.Fa) (fn : List He.DefD) (ts : List He.Tab) (tf : List He.Defn) (ex : PySem.W.Frag → Bool) (g : Addr → Option Obj) : He.AlX :=
  (He.obsT fa fn ts (frS n g), ex (frS n g) && He.tabsB g tf (frS n g))
theorem says_obsS {n : Nat} {fa : List He.Fa} {fn : List He.DefD} {ts : List He.Tab} {tf : List He.Defn} {ex : PySem.W.Frag → Bool} {w : World} {h : Heap} (e : obsS n fa fn ts tf ex h.get? = He.valX fn ts w) : He.SaysX fa fn ts tf ex w h (frS n h.get?) := by
  have a1 : He.obsT fa fn ts (frS n h.get?) = He.valT fn ts w := congrArg Prod.fst e
  have a2 : (ex (frS n h.get?) && He.tabsB h.get? tf (frS n h.get?)) = true := congrArg Prod.snd e
  obtain ⟨b1, b2⟩ := Bool.and_eq_true_iff.mp a2
  have tab : ∀ p ∈ tf, PySem.W.codeHdIn (frS n h.get?) (He.cT (frS n h.get?) p).1 (He.cT (frS n h.get?) p).2 = true ∧ ∃ o, h.get? (He.cT (frS n h.get?) p).2 = some o ∧ He.emptyTab o = true := by
    intro p hp
    obtain ⟨c1, c2⟩ := Bool.and_eq_true_iff.mp (List.all_eq_true.mp b2 p hp)
    refine ⟨c1, ?_⟩
    generalize h.get? (He.cT (frS n h.get?) p).2 = u at c2 ⊢
    cases u with
    | none => cases c2
    | some o => exact ⟨o, rfl, c2⟩
  refine ⟨a1, b1, fun p hp => (tab p hp).1, fun p hp => ?_, fun p hp => ?_⟩
  · obtain ⟨_, o, q, z⟩ := tab p hp
    exact He.frT_none q z
  · obtain ⟨_, o, q, z⟩ := tab p hp
    rw [q, He.emptyTab_eq z]
def hookS (n : Nat) (fa : List He.Fa) (fn : List He.DefD) (ts : List He.Tab) (tf : List He.Defn) (ex : PySem.W.Frag → Bool) : PySem.W.Hook where
  α := He.AlX
  obs := fun s => obsS n fa fn ts tf ex s.heap.get?
  val := fun w => He.valX fn ts w
  says := fun w h => ∃ K : PySem.W.Frag, K.In h ∧ He.SaysX fa fn ts tf ex w h K
  of := fun _ _ e => ⟨_, He.frT_in, says_obsS e⟩
  keeps := fun _ _ _ ⟨K, hK, c⟩ k => ⟨K, hK.keeps k, ⟨c.t, c.more, c.hd, c.out, fun p hp => k _ _ (c.empty p hp)⟩⟩
theorem obsS_eq {n : Nat} {fa : List He.Fa} {fn : List He.DefD} {ts : List He.Tab} {tf : List He.Defn} {ex : PySem.W.Frag → Bool} {g : Addr → Option Obj} {s : Shared} (h : ∀ a, g a = s.heap.get? a) : obsS n fa fn ts tf ex g = (hookS n fa fn ts tf ex).obs s := by
  rw [show g = s.heap.get? from funext h] <;> rfl
/-- the same looks, off a tree that is made of the heap's objects first -/
def treeHook (H : PySem.W.Hook) (ob : PySem.W.SharedT → H.α) (hob : ∀ s, ob s = H.obs s.abs) : PySem.W.Hook where
  α := Option H.α
  obs := fun s => (HandSHeadRun.putAll s.heap.objs.toList .nil 0).map fun r => ob ⟨r.1, r.2, s.heap.life, s.gens, s.drawn, s.toks, s.os⟩
  val := fun w => some (H.val w)
  says := H.says
  of := fun w s e => by
    obtain ⟨⟨T, n⟩, h1, h2⟩ := Option.map_eq_some_iff.mp e
    refine H.of w s ?_
    rw [hob] at h2
    have e2 : PySem.W.SharedT.abs ⟨T, n, s.heap.life, s.gens, s.drawn, s.toks, s.os⟩ = s := by
      show (⟨PySem.W.absHeap T n s.heap.life, s.gens, s.drawn, s.toks, s.os⟩ : Shared) = s
      rw [HandSHeadRun.putAll_heap h1]
    rw [e2] at h2
    exact h2
  keeps := H.keeps
end DL

namespace Lw
open PySem PySem.Spec PyProof.Rows L2

def top (i : Nat) : Stmt := PySem.Challenge.pw_calmcuts_k04_part_texts_written_and_read.main.body.getD i (.Pass ⟨0, 0, 0, 0⟩)
abbrev s_law_bag : Stmt := top 13
abbrev s_law_gcd : Stmt := top 17
abbrev s_law_part : Stmt := top 18
abbrev s_law_get : Stmt := top 14
abbrev s_law_far : Stmt := top 15
abbrev s_law_number : Stmt := top 19
abbrev s_law_some_part : Stmt := top 20
abbrev s_part_text : Stmt := top 8
abbrev s_law_same : Stmt := top 16
abbrev s_figures_in : Stmt := top 9
abbrev s_number_in : Stmt := top 10
abbrev s_is_whole : Stmt := top 5
abbrev s_common : Stmt := top 6
abbrev s_is_part : Stmt := top 7
abbrev s_read_part : Stmt := top 11
abbrev s_law_text : Stmt := top 21
abbrev s_law : Stmt := top 22
def dd_law_bag : He.DefD := ⟨("_law_bag", none), "_law_bag", "_law_bag", defArgs s_law_bag, defBody s_law_bag, defScope s_law_bag, [], []⟩
def dd_law_gcd : He.DefD := ⟨("_law_gcd", none), "_law_gcd", "_law_gcd", defArgs s_law_gcd, defBody s_law_gcd, defScope s_law_gcd, [], []⟩
def dd_law_part : He.DefD := ⟨("_law_part", none), "_law_part", "_law_part", defArgs s_law_part, defBody s_law_part, defScope s_law_part, [], []⟩
def dd_law_get : He.DefD := ⟨("_law_get", none), "_law_get", "_law_get", defArgs s_law_get, defBody s_law_get, defScope s_law_get, [], []⟩
def dd_law_far : He.DefD := ⟨("_law_far", none), "_law_far", "_law_far", defArgs s_law_far, defBody s_law_far, defScope s_law_far, [], []⟩
def dd_law_number : He.DefD := ⟨("_law_number", none), "_law_number", "_law_number", defArgs s_law_number, defBody s_law_number, defScope s_law_number, [], []⟩
def dd_law_some_part : He.DefD := ⟨("_law_some_part", none), "_law_some_part", "_law_some_part", defArgs s_law_some_part, defBody s_law_some_part, defScope s_law_some_part, [], []⟩
def dd_part_text : He.DefD := ⟨("part_text", none), "part_text", "part_text", defArgs s_part_text, defBody s_part_text, defScope s_part_text, [], []⟩
def dd_law_same : He.DefD := ⟨("_law_same", none), "_law_same", "_law_same", defArgs s_law_same, defBody s_law_same, defScope s_law_same, [], []⟩
def dd_figures_in : He.DefD := ⟨("figures_in", none), "figures_in", "figures_in", defArgs s_figures_in, defBody s_figures_in, defScope s_figures_in, [.int 200], []⟩
def dd_number_in : He.DefD := ⟨("number_in", none), "number_in", "number_in", defArgs s_number_in, defBody s_number_in, defScope s_number_in, [.int 200], []⟩
def dd_is_whole : He.DefD := ⟨("is_whole", none), "is_whole", "is_whole", defArgs s_is_whole, defBody s_is_whole, defScope s_is_whole, [], []⟩
def dd_common : He.DefD := ⟨("common", none), "common", "common", defArgs s_common, defBody s_common, defScope s_common, [], []⟩
def dd_is_part : He.DefD := ⟨("is_part", none), "is_part", "is_part", defArgs s_is_part, defBody s_is_part, defScope s_is_part, [], []⟩
def dd_read_part : He.DefD := ⟨("read_part", none), "read_part", "read_part", defArgs s_read_part, defBody s_read_part, defScope s_read_part, [], []⟩
def dd_law_text : He.DefD := ⟨("_law_text", none), "_law_text", "_law_text", defArgs s_law_text, defBody s_law_text, defScope s_law_text, [], []⟩
def dd_law : He.DefD := ⟨("law", none), "law", "law", defArgs s_law, defBody s_law, defScope s_law, [], []⟩
def fnD : List He.DefD := [dd_law_bag, dd_law_gcd, dd_law_part, dd_law_get, dd_law_far, dd_law_number, dd_law_some_part, dd_part_text, dd_law_same, dd_figures_in, dd_number_in, dd_is_whole, dd_common, dd_is_part, dd_read_part, dd_law_text, dd_law]
def faD : List He.Fa := [.glo "_law_bag", .glo "_law_gcd", .glo "_law_part", .glo "_law_get", .glo "_law_far", .glo "_law_number", .glo "_law_some_part", .glo "part_text", .glo "_law_same", .glo "figures_in", .glo "number_in", .glo "is_whole", .glo "common", .glo "is_part", .glo "read_part", .glo "_law_text", .glo "law", .free "abs", .free "all", .free "bool", .free "dict", .free "int", .free "isinstance", .free "len", .free "list", .free "range", .free "str", .free "tuple", .free "zip"]
abbrev R : PySem.W.OpenRow := PySem.W.OpenLaw.row PySem.Challenge.rw_calmcuts_k04_part_texts_written_and_read
abbrev hk : PySem.W.Hook := He.hookD 4 faD fnD
def ob (s : PySem.W.SharedT) : He.AlD := He.obsDG 4 faD fnD (HandSHeadRun.getT s)
theorem ob_eq (s : PySem.W.SharedT) : ob s = hk.obs s.abs := He.obsDG_eq (HandSHeadRun.getT_eq s)
abbrev hk2 : PySem.W.Hook := DL.treeHook hk ob ob_eq
def looseD : List PySem.Str := (["CutError", "BadText", "MOST_FIGURES", "is_whole", "common", "is_part", "part_text", "figures_in", "number_in", "read_part", "_law_bag", "_law_get", "_law_far", "_law_same", "_law_gcd", "_law_part", "_law_number", "_law_some_part", "_law_text"] : List PySem.Str)

end Lw
/-! DL: a logic over plain data above the hand layer. D: data; Rep: a value stands for a datum; Cs: the objects that may change. -/
namespace DL
open PySem L2

inductive D where
  | non | bl (b : Bool) | int (i : Int) | str (x : Str)
  | tup (xs : List D) | lst (xs : List D) | dic (kvs : List (Key × D)) | dct (kvs : List (List Key × D))
  | ins (c : Str) (fs : List (Str × D)) | xcp (a dd : Addr) (c : Str) (fs : List (Str × D))
  | opq (v : V)

def Ex (H H' : Hp) : Prop := ∀ a o, H a = some o → H' a = some o
theorem Ex.refl (H : Hp) : Ex H H := fun _ _ h => h
theorem Ex.trans {H H1 H2 : Hp} (a : Ex H H1) (b : Ex H1 H2) : Ex H H2 := fun x o h => b x o (a x o h)
theorem Ex.new {H : Hp} {p : Addr} {o : HO} (h : H p = none) : Ex H (upd H p o) := fun a u e => by
  rw [upd_ne (ne_of_none e h)]; exact e
theorem Ex.back {H H' : Hp} {p : Addr} (e : Ex H H') (h : H' p = none) : H p = none := by
  cases h1 : H p with
  | none => rfl
  | some o => rw [e p o h1] at h; cases h
theorem ex_rd {H H' : Hp} {a : Addr} {u : HO} (e : Ex H H') (h : Rd H a u) : Rd H' a u := by
  rcases h with h | ⟨o, h⟩
  · exact Or.inl (e a _ h)
  · exact Or.inr ⟨o, e a _ h⟩
theorem ex_l {K : PySem.W.Frag} {H H' : Hp} {a : Addr} {xs : List V} (e : Ex H H') (h : SqL K H a xs) : SqL K H' a xs := by
  rcases h with h | h
  · exact Or.inl (ex_rd e h)
  · exact Or.inr h
theorem ex_t {K : PySem.W.Frag} {H H' : Hp} {a : Addr} {xs : List V} (e : Ex H H') (h : SqT K H a xs) : SqT K H' a xs := by
  rcases h with h | h
  · exact Or.inl (ex_rd e h)
  · exact Or.inr h

mutual
inductive Rep (K : PySem.W.Frag) (G : Hp) : V → D → Prop
  | non : Rep K G .non .non
  | bl (b : Bool) : Rep K G (.bl b) (.bl b)
  | int (i : Int) : Rep K G (.int i) (.int i)
  | str (x : Str) : Rep K G (.str x) (.str x)
  | opq (v : V) : Rep K G v (.opq v)
  | lst {a : Addr} {xs : List V} {ds : List D} : SqL K G a xs → RepL K G xs ds → Rep K G (.ref a) (.lst ds)
  | tup {a : Addr} {xs : List V} {ds : List D} : SqT K G a xs → RepL K G xs ds → Rep K G (.ref a) (.tup ds)
  | dic {a : Addr} {o : Obj} {xs : List (Key × V)} {ds : List (Key × D)} : G a = some (.frz o (.dK xs)) → RepK K G xs ds → Rep K G (.ref a) (.dic ds)
  | dct {a : Addr} {o : Obj} {xs : List (List Key × V)} {ds : List (List Key × D)} : G a = some (.frz o (.dT xs)) → RepT K G xs ds → Rep K G (.ref a) (.dct ds)
  | ins {a dx : Addr} {c : Str} {xs : List (Str × V)} {fs : List (Str × D)} : G a = some (.ins (He.ga K c) dx xs) → G dx = some (.own a) → RepF K G xs fs → Rep K G (.ref a) (.ins c fs)
  | xcp {a dd : Addr} {c : Str} {xs : List (Str × V)} {fs : List (Str × D)} : G dd = some (.xd xs) → RepX K G xs fs → Rep K G (.ref a) (.xcp a dd c fs)
inductive RepL (K : PySem.W.Frag) (G : Hp) : List V → List D → Prop
  | nil : RepL K G [] []
  | cons {v : V} {vs : List V} {d : D} {ds : List D} : Rep K G v d → RepL K G vs ds → RepL K G (v :: vs) (d :: ds)
inductive RepK (K : PySem.W.Frag) (G : Hp) : List (Key × V) → List (Key × D) → Prop
  | nil : RepK K G [] []
  | cons {k : Key} {v : V} {vs : List (Key × V)} {d : D} {ds : List (Key × D)} : Rep K G v d → RepK K G vs ds → RepK K G ((k, v) :: vs) ((k, d) :: ds)
inductive RepT (K : PySem.W.Frag) (G : Hp) : List (List Key × V) → List (List Key × D) → Prop
  | nil : RepT K G [] []
  | cons {k : List Key} {v : V} {vs : List (List Key × V)} {d : D} {ds : List (List Key × D)} : Rep K G v d → RepT K G vs ds → RepT K G ((k, v) :: vs) ((k, d) :: ds)
/-- fields, one by one -/
inductive RepF (K : PySem.W.Frag) (G : Hp) : List (Str × V) → List (Str × D) → Prop
  | nil : RepF K G [] []
  | cons {k : Str} {v : V} {vs : List (Str × V)} {d : D} {ds : List (Str × D)} : Rep K G v d → RepF K G vs ds → RepF K G ((k, v) :: vs) ((k, d) :: ds)
/-- some fields, by name -/
inductive RepX (K : PySem.W.Frag) (G : Hp) : List (Str × V) → List (Str × D) → Prop
  | nil {vs : List (Str × V)} : RepX K G vs []
  | cons {k : Str} {v : V} {vs : List (Str × V)} {d : D} {ds : List (Str × D)} : vs.lookup k = some v → Rep K G v d → RepX K G vs ds → RepX K G vs ((k, d) :: ds)
end
mutual
theorem Rep.mono {K : PySem.W.Frag} {G G' : Hp} (e : Ex G G') : ∀ {v : V} {d : D}, Rep K G v d → Rep K G' v d
  | _, _, .non => .non
  | _, _, .bl b => .bl b
  | _, _, .int i => .int i
  | _, _, .str x => .str x
  | _, _, .opq v => .opq v
  | _, _, .lst h r => .lst (ex_l e h) (r.mono e)
  | _, _, .tup h r => .tup (ex_t e h) (r.mono e)
  | _, _, .dic h r => .dic (e _ _ h) (r.mono e)
  | _, _, .dct h r => .dct (e _ _ h) (r.mono e)
  | _, _, .ins h q r => .ins (e _ _ h) (e _ _ q) (r.mono e)
  | _, _, .xcp h r => .xcp (e _ _ h) (r.mono e)
theorem RepL.mono {K : PySem.W.Frag} {G G' : Hp} (e : Ex G G') : ∀ {vs : List V} {ds : List D}, RepL K G vs ds → RepL K G' vs ds
  | _, _, .nil => .nil
  | _, _, .cons h r => .cons (h.mono e) (r.mono e)
theorem RepK.mono {K : PySem.W.Frag} {G G' : Hp} (e : Ex G G') : ∀ {vs : List (Key × V)} {ds : List (Key × D)}, RepK K G vs ds → RepK K G' vs ds
  | _, _, .nil => .nil
  | _, _, .cons h r => .cons (h.mono e) (r.mono e)
theorem RepT.mono {K : PySem.W.Frag} {G G' : Hp} (e : Ex G G') : ∀ {vs : List (List Key × V)} {ds : List (List Key × D)}, RepT K G vs ds → RepT K G' vs ds
  | _, _, .nil => .nil
  | _, _, .cons h r => .cons (h.mono e) (r.mono e)
theorem RepF.mono {K : PySem.W.Frag} {G G' : Hp} (e : Ex G G') : ∀ {vs : List (Str × V)} {ds : List (Str × D)}, RepF K G vs ds → RepF K G' vs ds
  | _, _, .nil => .nil
  | _, _, .cons h r => .cons (h.mono e) (r.mono e)
theorem RepX.mono {K : PySem.W.Frag} {G G' : Hp} (e : Ex G G') : ∀ {vs : List (Str × V)} {ds : List (Str × D)}, RepX K G vs ds → RepX K G' vs ds
  | _, _, .nil => .nil
  | _, _, .cons q h r => .cons q (h.mono e) (r.mono e)
end
theorem RepX.get {K : PySem.W.Frag} {G : Hp} : ∀ {vs : List (Str × V)} {ds : List (Str × D)} {f : Str} {y : D}, RepX K G vs ds → ds.lookup f = some y → ∃ v, vs.lookup f = some v ∧ Rep K G v y
  | _, _, f, y, .nil, e => by cases e
  | _, (k, d) :: ds, f, y, .cons q h r, e => by
    by_cases z : f = k
    · subst z
      simp only [List.lookup, beq_self_eq_true, Option.some.injEq] at e
      subst e
      exact ⟨_, q, h⟩
    · have z2 : (f == k) = false := beq_false_of_ne z
      simp only [List.lookup, z2] at e
      exact r.get e
theorem RepF.get {K : PySem.W.Frag} {G : Hp} : ∀ {vs : List (Str × V)} {ds : List (Str × D)} {f : Str} {y : D}, RepF K G vs ds → ds.lookup f = some y → ∃ v, vs.lookup f = some v ∧ Rep K G v y
  | _, _, f, y, .nil, e => by cases e
  | (_, v) :: vs, (k, d) :: ds, f, y, .cons h r, e => by
    by_cases z : f = k
    · subst z
      simp only [List.lookup, beq_self_eq_true, Option.some.injEq] at e ⊢
      subst e
      exact ⟨_, rfl, h⟩
    · have z2 : (f == k) = false := beq_false_of_ne z
      simp only [List.lookup, z2] at e ⊢
      exact r.get e
theorem RepF.none {K : PySem.W.Frag} {G : Hp} : ∀ {vs : List (Str × V)} {ds : List (Str × D)} {f : Str}, RepF K G vs ds → ds.lookup f = none → vs.lookup f = none
  | _, _, f, .nil, _ => rfl
  | (_, v) :: vs, (k, d) :: ds, f, .cons h r, e => by
    by_cases z : f = k
    · subst z
      simp [List.lookup] at e
    · have z2 : (f == k) = false := beq_false_of_ne z
      simp only [List.lookup, z2] at e ⊢
      exact r.none e
theorem RepL.length {K : PySem.W.Frag} {G : Hp} : ∀ {vs : List V} {ds : List D}, RepL K G vs ds → vs.length = ds.length
  | _, _, .nil => rfl
  | _, _, .cons _ r => congrArg Nat.succ r.length
theorem RepL.get {K : PySem.W.Frag} {G : Hp} : ∀ {vs : List V} {ds : List D} {i : Nat} {d : D}, RepL K G vs ds → ds[i]? = some d → ∃ v, vs[i]? = some v ∧ Rep K G v d
  | _, _, _, _, .nil, e => by simp at e
  | _, _, 0, _, .cons h _, e => by simp at e; subst e; exact ⟨_, rfl, h⟩
  | _, _, i + 1, d, .cons _ r, e => by
    obtain ⟨u, h1, h2⟩ := RepL.get (i := i) (d := d) r (by simpa using e)
    exact ⟨u, by simpa using h1, h2⟩
theorem RepL.append {K : PySem.W.Frag} {G : Hp} : ∀ {vs ws : List V} {ds es : List D}, RepL K G vs ds → RepL K G ws es → RepL K G (vs ++ ws) (ds ++ es)
  | _, _, _, _, .nil, s => s
  | _, _, _, _, .cons h r, s => .cons h (r.append s)
theorem RepL.take {K : PySem.W.Frag} {G : Hp} : ∀ {vs : List V} {ds : List D} (n : Nat), RepL K G vs ds → RepL K G (vs.take n) (ds.take n)
  | _, _, 0, _ => by simp; exact .nil
  | _, _, _ + 1, .nil => .nil
  | _, _, n + 1, .cons h r => .cons h (r.take n)
theorem RepL.drop {K : PySem.W.Frag} {G : Hp} : ∀ {vs : List V} {ds : List D} (n : Nat), RepL K G vs ds → RepL K G (vs.drop n) (ds.drop n)
  | _, _, 0, r => r
  | _, _, _ + 1, .nil => .nil
  | _, _, n + 1, .cons _ r => r.drop n
theorem RepL.set {K : PySem.W.Frag} {G : Hp} {v : V} {d : D} (h : Rep K G v d) : ∀ {vs : List V} {ds : List D} (n : Nat), RepL K G vs ds → RepL K G (vs.set n v) (ds.set n d)
  | _, _, _, .nil => .nil
  | _, _, 0, .cons _ r => .cons h r
  | _, _, n + 1, .cons q r => .cons q (r.set h n)
theorem RepL.dropLast {K : PySem.W.Frag} {G : Hp} {vs : List V} {ds : List D} (h : RepL K G vs ds) : RepL K G vs.dropLast ds.dropLast := by
  rw [List.dropLast_eq_take, List.dropLast_eq_take, h.length]; exact h.take _
theorem RepL.intsL {K : PySem.W.Frag} {G : Hp} : ∀ {vs : List V} (ns : List Int), RepL K G vs (ns.map D.int) → vs = ns.map V.int
  | _, [], .nil => rfl
  | _, n :: ns, .cons h r => by
    cases h
    rw [List.map_cons, RepL.intsL ns r]
theorem RepL.ofInts {K : PySem.W.Frag} {G : Hp} : ∀ (ns : List Int), RepL K G (ns.map V.int) (ns.map D.int)
  | [] => .nil
  | n :: ns => .cons (.int n) (RepL.ofInts ns)
theorem RepL.bls {K : PySem.W.Frag} {G : Hp} : ∀ {vs : List V} (ns : List Bool), RepL K G vs (ns.map D.bl) → vs = ns.map V.bl
  | _, [], .nil => rfl
  | _, n :: ns, .cons h r => by
    cases h
    rw [List.map_cons, RepL.bls ns r]

/-! ### the changing objects -/
inductive MO where
  | lst (ds : List D) | dic (kvs : List (Key × D)) | dct (kvs : List (List Key × D))
  | tbl (q : Str) | ins (c : Str) (dx : Addr) (fs : List (Str × D))
abbrev Cs := List (Addr × MO)
def adr (cs : Cs) : List Addr := cs.map (·.1)
def pur (F : Hp) (cs : Cs) (H : Hp) : Hp := fun b => if (F b).isSome = true ∨ b ∈ adr cs then none else H b
def MoOk (K : PySem.W.Frag) (G : Hp) : MO → HO → Prop
  | .lst ds, .lst vs => RepL K G vs ds
  | .dic ds, .dK vs => RepK K G vs ds
  | .dct ds, .dT vs => RepT K G vs ds
  | .tbl q, .tbl ps => TriplesOk ps.toList ∧ ∀ (pos : Pos) (cv : Value), codeAmong pos ps.toList = some cv → ∃ c, cv = .ref c ∧ G c = some (LamX.CodeO c q)
  | _, _ => False
theorem MoOk.mono {K : PySem.W.Frag} {G G' : Hp} (e : Ex G G') : ∀ {m : MO} {o : HO}, MoOk K G m o → MoOk K G' m o := by
  intro m o h
  cases m <;> cases o <;> first | exact h.elim | exact RepL.mono e h | exact RepK.mono e h | exact RepT.mono e h | exact ⟨h.1, fun pos cv hc => by
    obtain ⟨c, e1, e2⟩ := h.2 pos cv hc
    exact ⟨c, e1, e _ _ e2⟩⟩
structure Sta (K : PySem.W.Frag) (F G0 : Hp) (cs : Cs) (H : Hp) : Prop where
  fr : Ex F H
  gr : Ex G0 (pur F cs H)
  nd : (adr cs).Nodup
  ap : ∀ a ∈ adr cs, F a = none
  ow : ∀ a m, (a, m) ∈ cs → ∃ o, H a = some o ∧ MoOk K (pur F cs H) m o
  ft : ∀ a xs, F a ≠ some (.tup xs)
section
variable {K : PySem.W.Frag} {F G G0 G1 H H1 H' : Hp} {cs cs1 cs' : Cs} {p : Addr} {o : HO} {m : MO}
theorem Sta.self (s : Sta K F G0 cs H) : Sta K F (pur F cs H) cs H := ⟨s.fr, Ex.refl _, s.nd, s.ap, s.ow, s.ft⟩
theorem Sta.from_ (s : Sta K F G1 cs H) (e : Ex G0 G1) : Sta K F G0 cs H := ⟨s.fr, e.trans s.gr, s.nd, s.ap, s.ow, s.ft⟩
theorem pur_none (h : H p = none) : pur F cs H p = none := by
  unfold pur
  split
  · rfl
  · exact h
theorem pur_of {b : Addr} {u : HO} (h : pur F cs H b = some u) : H b = some u ∧ F b = none ∧ b ∉ adr cs := by
  unfold pur at h
  split at h
  · cases h
  · rename_i q
    refine ⟨h, ?_, fun z => q (.inr z)⟩
    cases e : F b with
    | none => rfl
    | some x => exact absurd (Or.inl (by rw [e]; rfl)) q
theorem pur_at {b : Addr} (h1 : F b = none) (h2 : b ∉ adr cs) : pur F cs H b = H b := by
  unfold pur
  rw [if_neg]
  rintro (z | z)
  · rw [h1] at z; cases z
  · exact h2 z
/-- a new thing that never changes -/
theorem Sta.new (s : Sta K F G0 cs H) (h : H p = none) : Sta K F (pur F cs H) cs (upd H p o) ∧ pur F cs (upd H p o) p = some o := by
  have hF : F p = none := s.fr.back h
  have hc : p ∉ adr cs := fun z => by
    obtain ⟨⟨a, m⟩, hm, e⟩ := List.mem_map.mp z
    obtain ⟨u, hu, _⟩ := s.ow a m hm
    have e' : a = p := e
    rw [e', h] at hu; cases hu
  have g : Ex (pur F cs H) (pur F cs (upd H p o)) := fun b u e => by
    obtain ⟨e1, e2, e3⟩ := pur_of e
    rw [pur_at e2 e3, upd_ne (ne_of_none e1 h)]; exact e1
  refine ⟨⟨s.fr.trans (Ex.new h), g, s.nd, s.ap, fun a m hm => ?_, s.ft⟩, by rw [pur_at hF hc, upd_same]⟩
  obtain ⟨u, hu, q⟩ := s.ow a m hm
  exact ⟨u, by rw [upd_ne (ne_of_none hu h)]; exact hu, q.mono g⟩
theorem Sta.notin (s : Sta K F G0 cs H) (h : H p = none) : F p = none ∧ p ∉ adr cs := by
  refine ⟨s.fr.back h, fun z => ?_⟩
  obtain ⟨⟨a, m⟩, hm, e⟩ := List.mem_map.mp z
  obtain ⟨u, hu, _⟩ := s.ow a m hm
  have e' : a = p := e
  rw [e', h] at hu; cases hu
/-- a new thing that may change -/
theorem Sta.newM (s : Sta K F G0 cs H) (h : H p = none) (q : MoOk K (pur F cs H) m o) : Sta K F (pur F cs H) ((p, m) :: cs) (upd H p o) := by
  obtain ⟨hF, hc⟩ := s.notin h
  have g : Ex (pur F cs H) (pur F ((p, m) :: cs) (upd H p o)) := fun b u e => by
    obtain ⟨e1, e2, e3⟩ := pur_of e
    have hb : b ≠ p := ne_of_none e1 h
    rw [pur_at e2 (by show b ∉ p :: adr cs; simp [hb, e3]), upd_ne hb]; exact e1
  refine ⟨s.fr.trans (Ex.new h), g, ?_, ?_, ?_, s.ft⟩
  · show (p :: adr cs).Nodup
    exact List.nodup_cons.mpr ⟨hc, s.nd⟩
  · intro a ha
    rcases List.mem_cons.mp (show a ∈ p :: adr cs from ha) with e | e
    · rw [e]; exact hF
    · exact s.ap a e
  · intro a m' hm
    rcases List.mem_cons.mp hm with e | e
    · cases e
      exact ⟨o, upd_same, q.mono g⟩
    · obtain ⟨u, hu, r⟩ := s.ow a m' e
      exact ⟨u, by rw [upd_ne (ne_of_none hu h)]; exact hu, r.mono g⟩
/-- what may change is from now on data -/
theorem Sta.freeze (s : Sta K F G0 ((p, m) :: cs) H) : Sta K F G0 cs H ∧ Ex (pur F ((p, m) :: cs) H) (pur F cs H) ∧ ∃ o, pur F cs H p = some o ∧ MoOk K (pur F cs H) m o := by
  have g : Ex (pur F ((p, m) :: cs) H) (pur F cs H) := fun b u e => by
    obtain ⟨e1, e2, e3⟩ := pur_of e
    rw [pur_at e2 fun z => e3 (List.mem_cons_of_mem _ z)]; exact e1
  have nd : (p :: adr cs).Nodup := s.nd
  obtain ⟨n1, n2⟩ := List.nodup_cons.mp nd
  have hF : F p = none := s.ap p (List.mem_cons_self ..)
  refine ⟨⟨s.fr, s.gr.trans g, n2, fun a h => s.ap a (List.mem_cons_of_mem _ h), fun a m' h => ?_, s.ft⟩, g, ?_⟩
  · obtain ⟨u, hu, r⟩ := s.ow a m' (List.mem_cons_of_mem _ h)
    exact ⟨u, hu, r.mono g⟩
  · obtain ⟨u, hu, r⟩ := s.ow p m (List.mem_cons_self ..)
    exact ⟨u, by rw [pur_at hF n1]; exact hu, r.mono g⟩
/-- the content of p replaced -/
def put (p : Addr) (m : MO) : Cs → Cs
  | [] => []
  | (a, x) :: r => if a = p then (a, m) :: r else (a, x) :: put p m r
def look (p : Addr) : Cs → Option MO
  | [] => none
  | (a, x) :: r => if a = p then some x else look p r
theorem adr_put (p : Addr) (m : MO) : ∀ cs : Cs, adr (put p m cs) = adr cs
  | [] => rfl
  | (a, x) :: r => by
    unfold put
    split
    · rfl
    · show a :: adr (put p m r) = a :: adr r
      rw [adr_put p m r]
theorem look_mem {p : Addr} {m : MO} : ∀ {cs : Cs}, look p cs = some m → (p, m) ∈ cs
  | [], h => by cases h
  | (a, x) :: r, h => by
    unfold look at h
    split at h
    · rename_i e
      cases h; cases e
      exact List.mem_cons_self ..
    · exact List.mem_cons_of_mem _ (look_mem h)
theorem look_put {p : Addr} {m m' : MO} : ∀ {cs : Cs}, look p cs = some m → look p (put p m' cs) = some m'
  | [], h => by cases h
  | (a, x) :: r, h => by
    unfold look at h
    unfold put
    split at h
    · rename_i e
      rw [if_pos e]
      unfold look
      rw [if_pos e]
    · rename_i e
      rw [if_neg e]
      unfold look
      rw [if_neg e]
      exact look_put h
theorem look_put_ne {p q : Addr} {m : MO} (hn : q ≠ p) : ∀ {cs : Cs}, look q (put p m cs) = look q cs
  | [] => rfl
  | (a, x) :: r => by
    unfold put
    split
    · rename_i e
      unfold look
      rw [if_neg (fun z => hn (z.symm.trans e)), if_neg (fun z => hn (z.symm.trans e))]
    · unfold look
      rw [look_put_ne hn]
theorem put_put {p : Addr} {m m' : MO} : ∀ {cs : Cs}, put p m' (put p m cs) = put p m' cs
  | [] => rfl
  | (a, x) :: r => by
    by_cases e : a = p
    · have e1 : put p m ((a, x) :: r) = (a, m) :: r := by simp [put, e]
      have e2 : put p m' ((a, x) :: r) = (a, m') :: r := by simp [put, e]
      rw [e1, e2]; simp [put, e]
    · have e1 : put p m ((a, x) :: r) = (a, x) :: put p m r := by simp [put, e]
      have e2 : put p m' ((a, x) :: r) = (a, x) :: put p m' r := by simp [put, e]
      rw [e1, e2]
      have ih := put_put (p := p) (m := m) (m' := m') (cs := r)
      simp [put, e, ih]
theorem mem_put {p a : Addr} {m x : MO} : ∀ {cs : Cs}, (adr cs).Nodup → (a, x) ∈ put p m cs → (a = p ∧ x = m) ∨ (a ≠ p ∧ (a, x) ∈ cs)
  | [], _, h => by cases h
  | (b, y) :: r, nd, h => by
    have nd' : (b :: adr r).Nodup := nd
    obtain ⟨n1, n2⟩ := List.nodup_cons.mp nd'
    unfold put at h
    split at h
    · rename_i e
      rcases List.mem_cons.mp h with q | q
      · cases q; exact .inl ⟨e, rfl⟩
      · refine .inr ⟨fun z => n1 ?_, List.mem_cons_of_mem _ q⟩
        rw [e, ← z]; exact List.mem_map.mpr ⟨(a, x), q, rfl⟩
    · rename_i e
      rcases List.mem_cons.mp h with q | q
      · cases q; exact .inr ⟨e, List.mem_cons_self ..⟩
      · rcases mem_put n2 q with z | z
        · exact .inl z
        · exact .inr ⟨z.1, List.mem_cons_of_mem _ z.2⟩
theorem Sta.put (s : Sta K F G0 cs H) (hl : look p cs = some m) {m' : MO} {o' : HO} (q : MoOk K (pur F cs H) m' o') : Sta K F (pur F cs H) (put p m' cs) (upd H p o') := by
  have hp : p ∈ adr cs := List.mem_map.mpr ⟨(p, m), look_mem hl, rfl⟩
  have hF := s.ap p hp
  have e : pur F (DL.put p m' cs) (upd H p o') = pur F cs H := by
    funext b
    unfold pur
    rw [adr_put]
    by_cases hb : b = p
    · subst hb
      rw [if_pos (.inr hp), if_pos (.inr hp)]
    · rw [upd_ne hb]
  refine ⟨fun b u h => ?_, by rw [e]; exact Ex.refl _, by rw [adr_put]; exact s.nd, by rw [adr_put]; exact s.ap, fun a x hx => ?_, s.ft⟩
  · rw [upd_ne (fun z => by rw [z, hF] at h; cases h)]; exact s.fr b u h
  · rw [e]
    rcases mem_put s.nd hx with ⟨e1, e2⟩ | ⟨e1, e2⟩
    · subst e1 e2; exact ⟨o', upd_same, q⟩
    · obtain ⟨u, hu, r⟩ := s.ow a x e2
      exact ⟨u, by rw [upd_ne e1]; exact hu, r⟩
theorem Sta.look (s : Sta K F G0 cs H) (hl : DL.look p cs = some m) : ∃ o, H p = some o ∧ MoOk K (pur F cs H) m o := s.ow p m (look_mem hl)
end

/-! ### lifted readings -/
abbrev Env := List (Option D)
structure Exn where
  cls : Str
  fs : List (Str × D)
abbrev XZ := Exn → Cs → Prop
abbrev DP := D → Cs → Prop
abbrev WE := Env → Cs → DP → XZ → Prop
abbrev WT := Env → Cs → (Bool → Cs → Prop) → XZ → Prop
abbrev WA := Env → Cs → (List D → Cs → Prop) → XZ → Prop
structure Fin where
  nx : Env → Cs → Prop
  rt : D → Cs → Prop
  ex : Exn → Env → Cs → Prop := fun _ _ _ => False
  bk : Env → Cs → Prop := fun _ _ => False
  ct : Env → Cs → Prop := fun _ _ => False
abbrev WS := Fin → Env → Cs → Prop
inductive RepO (K : PySem.W.Frag) (G : Hp) : Option V → Option D → Prop
  | skip {o : Option V} : RepO K G o none
  | held {v : V} {d : D} : Rep K G v d → RepO K G (some v) (some d)
inductive RepE (K : PySem.W.Frag) (G : Hp) : St → Env → Prop
  | nil : RepE K G [] []
  | cons {v : Option V} {d : Option D} {σ : St} {ρ : Env} : RepO K G v d → RepE K G σ ρ → RepE K G (v :: σ) (d :: ρ)
section
variable {K : PySem.W.Frag} {G G' : Hp}
theorem RepO.mono (e : Ex G G') {v : Option V} {d : Option D} : RepO K G v d → RepO K G' v d
  | .skip => .skip
  | .held h => .held (h.mono e)
theorem RepE.mono (e : Ex G G') : ∀ {σ : St} {ρ : Env}, RepE K G σ ρ → RepE K G' σ ρ
  | _, _, .nil => .nil
  | _, _, .cons h r => .cons (h.mono e) (r.mono e)
theorem RepE.get : ∀ {σ : St} {ρ : Env} {i : Nat} {d : D}, RepE K G σ ρ → ρ[i]? = some (some d) → ∃ v, σ[i]? = some (some v) ∧ Rep K G v d
  | _, _, _, _, .nil, e => by simp at e
  | _, _, 0, _, .cons h _, e => by
    simp at e; subst e
    cases h with
    | held h => exact ⟨_, rfl, h⟩
  | _, _, i + 1, d, .cons _ r, e => by
    obtain ⟨u, h1, h2⟩ := RepE.get (i := i) (d := d) r (by simpa using e)
    exact ⟨u, by simpa using h1, h2⟩
theorem RepE.set {v : V} {d : D} (h : Rep K G v d) : ∀ {σ : St} {ρ : Env} (i : Nat), RepE K G σ ρ → RepE K G (σ.set i (some v)) (ρ.set i (some d))
  | _, _, _, .nil => .nil
  | _, _, 0, .cons _ r => .cons (.held h) r
  | _, _, i + 1, .cons q r => .cons q (r.set h i)
theorem RepE.start : ∀ {vs : List V} {ds : List D} (n : Nat), RepL K G vs ds → RepE K G (vs.map some ++ List.replicate n none) (ds.map some ++ List.replicate n none)
  | _, _, n, .nil => by
    induction n with
    | zero => exact .nil
    | succ n ih => exact .cons .skip ih
  | _, _, n, .cons h r => .cons (.held h) (RepE.start n r)
end
/-- an exception's dict -/
def XR (K : PySem.W.Frag) (G : Hp) (d : Option Addr) (fs : List (Str × D)) : Prop := ∃ a xs, d = some a ∧ G a = some (.xd xs) ∧ RepX K G xs fs
theorem XR.mono {K : PySem.W.Frag} {G G' : Hp} {d : Option Addr} {fs : List (Str × D)} (h : XR K G d fs) (e : Ex G G') : XR K G' d fs := by
  obtain ⟨a, xs, e1, e2, e3⟩ := h
  exact ⟨a, xs, e1, e _ _ e2, e3.mono e⟩
/-- what is due behind: by value, by exception -/
def PostE (K : PySem.W.Frag) (F G : Hp) (P : DP) (Q : VK) : Prop := ∀ H' cs' v d, Sta K F G cs' H' → Rep K (pur F cs' H') v d → P d cs' → Q v H'
def PostX (K : PySem.W.Frag) (F G : Hp) (Z : XZ) (W : Value → Option Addr → Hp → Prop) : Prop := ∀ H' cs' x d, Sta K F G cs' H' → XR K (pur F cs' H') d x.fs → Z x cs' → W (.ref (He.ga K x.cls)) d H'
theorem PostE.le {K : PySem.W.Frag} {F G G' : Hp} {P : DP} {Q : VK} (h : PostE K F G P Q) (e : Ex G G') : PostE K F G' P Q := fun H' cs' v d s r p => h H' cs' v d (s.from_ e) r p
theorem PostX.le {K : PySem.W.Frag} {F G G' : Hp} {Z : XZ} {W : Value → Option Addr → Hp → Prop} (h : PostX K F G Z W) (e : Ex G G') : PostX K F G' Z W := fun H' cs' x d s r p => h H' cs' x d (s.from_ e) r p
def lE (K : PySem.W.Frag) (W : WX) (w : WE) : TE := fun σ H Q => ∃ F cs ρ P Z, Sta K F (pur F cs H) cs H ∧ RepE K (pur F cs H) σ ρ ∧ w ρ cs P Z ∧ PostE K F (pur F cs H) P Q ∧ PostX K F (pur F cs H) Z fun c d H' => W c d σ H'
def lT (K : PySem.W.Frag) (W : WX) (w : WT) : TT := fun σ H Q => ∃ F cs ρ P Z, Sta K F (pur F cs H) cs H ∧ RepE K (pur F cs H) σ ρ ∧ w ρ cs P Z ∧ (∀ H' cs' b, Sta K F (pur F cs H) cs' H' → P b cs' → Q b H') ∧ PostX K F (pur F cs H) Z fun c d H' => W c d σ H'
def lA (K : PySem.W.Frag) (W : WX) (n : Nat) (w : WA) : TA := fun σ H Q => ∃ F cs ρ P Z, Sta K F (pur F cs H) cs H ∧ RepE K (pur F cs H) σ ρ ∧ w ρ cs P Z ∧
  (∀ H' cs' vs ds, Sta K F (pur F cs H) cs' H' → RepL K (pur F cs' H') vs ds → ds.length = n → P ds cs' → Q vs H') ∧ PostX K F (pur F cs H) Z fun c d H' => W c d σ H'
structure PostS (K : PySem.W.Frag) (F G : Hp) (W : WX) (f : Fin) (E : Ends) : Prop where
  nx : ∀ H' cs' σ' ρ', Sta K F G cs' H' → RepE K (pur F cs' H') σ' ρ' → f.nx ρ' cs' → E.nx σ' H'
  bk : ∀ H' cs' σ' ρ', Sta K F G cs' H' → RepE K (pur F cs' H') σ' ρ' → f.bk ρ' cs' → E.bk σ' H'
  ct : ∀ H' cs' σ' ρ', Sta K F G cs' H' → RepE K (pur F cs' H') σ' ρ' → f.ct ρ' cs' → E.ct σ' H'
  rt : PostE K F G f.rt E.rt
  ex : ∀ H' cs' σ' ρ' x d, Sta K F G cs' H' → RepE K (pur F cs' H') σ' ρ' → XR K (pur F cs' H') d x.fs → f.ex x ρ' cs' → W (.ref (He.ga K x.cls)) d σ' H'
theorem PostS.le {K : PySem.W.Frag} {F G G' : Hp} {W : WX} {f : Fin} {E : Ends} (h : PostS K F G W f E) (e : Ex G G') : PostS K F G' W f E :=
  ⟨fun H' cs' σ' ρ' s => h.nx H' cs' σ' ρ' (s.from_ e), fun H' cs' σ' ρ' s => h.bk H' cs' σ' ρ' (s.from_ e), fun H' cs' σ' ρ' s => h.ct H' cs' σ' ρ' (s.from_ e), h.rt.le e, fun H' cs' σ' ρ' x d s => h.ex H' cs' σ' ρ' x d (s.from_ e)⟩
def lS (K : PySem.W.Frag) (W : WX) (w : WS) : TS := fun E σ H => ∃ F cs ρ f, Sta K F (pur F cs H) cs H ∧ RepE K (pur F cs H) σ ρ ∧ w f ρ cs ∧ PostS K F (pur F cs H) W f E
abbrev DE (X : Cx) (W : WX) (e : Expr) (w : WE) : Prop := PE X e (lE X.K W w)
abbrev DT (X : Cx) (W : WX) (e : Expr) (w : WT) : Prop := PT X e (lT X.K W w)
abbrev DW (X : Cx) (W : WX) (e : Expr) (w : WT) : Prop := PW X e (lT X.K W w)
abbrev DA (X : Cx) (W : WX) (es : List Expr) (w : WA) : Prop := PA X es (lA X.K W es.length w)
abbrev DS (X : Cx) (W : WX) (st : Stmt) (w : WS) : Prop := PS X st (lS X.K W w)
abbrev DSs (X : Cx) (W : WX) (st : List Stmt) (w : WS) : Prop := PSs X st (lS X.K W w)
theorem PE.imp {X : Cx} {e : Expr} {t t' : TE} (h : PE X e t) (i : ∀ σ H Q, t' σ H Q → t σ H Q) : PE X e t' := ⟨fun pins s σ H Q I q => h.run pins s σ H Q I (i σ H Q q)⟩
theorem PT.imp {X : Cx} {e : Expr} {t t' : TT} (h : PT X e t) (i : ∀ σ H Q, t' σ H Q → t σ H Q) : PT X e t' := ⟨fun pins s σ H Q I q => h.run pins s σ H Q I (i σ H Q q)⟩
theorem PW.imp {X : Cx} {e : Expr} {t t' : TT} (h : PW X e t) (i : ∀ σ H Q, t' σ H Q → t σ H Q) : PW X e t' := ⟨fun wh pins s σ H Q I q => h.run wh pins s σ H Q I (i σ H Q q)⟩
theorem PA.imp {X : Cx} {e : List Expr} {t t' : TA} (h : PA X e t) (i : ∀ σ H Q, t' σ H Q → t σ H Q) : PA X e t' := ⟨fun pos pins s σ H Q I q => h.run pos pins s σ H Q I (i σ H Q q)⟩
theorem PS.imp {X : Cx} {st : Stmt} {t t' : TS} (h : PS X st t) (i : ∀ E σ H, t' E σ H → t E σ H) : PS X st t' := ⟨fun pins s σ H E I q => h.run pins s σ H E I (i E σ H q)⟩
theorem PSs.imp {X : Cx} {st : List Stmt} {t t' : TS} (h : PSs X st t) (i : ∀ E σ H, t' E σ H → t E σ H) : PSs X st t' := ⟨fun pins s σ H E I q => h.run pins s σ H E I (i E σ H q)⟩
end DL

namespace DL
open PySem L2
section
variable {X : Cx} {W : WX} {K : PySem.W.Frag} {σ : St} {H : Hp}
/-! ### names, constants -/
def wVar (i : Nat) : WE := fun ρ cs P _ => match ρ[i]? with
  | some (some d) => P d cs
  | _ => False
theorem d_var (i : Nat) {x : Str} {pos : Pos} (hN : X.N[i]? = some x := by rfl) (hv : Vis X.env.scope x := by first | exact Or.inl rfl | exact Or.inr (Or.inl rfl) | exact Or.inr (Or.inr rfl)) (hd : (x == ("__debug__" : Str)) = false := by decide)
    (hcd : (x == ("__classdict__" : Str)) = false := by decide) : DE X W (.Name x pos) (wVar i) :=
  PE.imp (pe_var (i := i) hN hv hd hcd) fun σ H Q ⟨F, cs, ρ, P, Z, s, re, hw, pe, px⟩ => by
    unfold wVar at hw
    split at hw
    · rename_i d e
      obtain ⟨v, h1, h2⟩ := re.get e
      exact ⟨v, h1, pe H cs v d s h2 hw⟩
    · exact hw.elim
def wC (d : D) : WE := fun _ cs P _ => P d cs
theorem d_of {e : Expr} {v : V} {d : D} (h : PE X e (tC v)) (r : ∀ G, Rep X.K G v d) : DE X W e (wC d) :=
  PE.imp h fun σ H Q ⟨F, cs, ρ, P, Z, s, re, hw, pe, px⟩ => pe H cs v d s (r _) hw
theorem d_int {i j pos} : DE X W (.Constant (.int i) j pos) (wC (.int i)) := d_of pe_int fun _ => .int _
theorem d_bl {b j pos} : DE X W (.Constant (.bool b) j pos) (wC (.bl b)) := d_of pe_bl fun _ => .bl _
theorem d_non {j pos} : DE X W (.Constant .none j pos) (wC .non) := d_of pe_non fun _ => .non
theorem d_str {x j pos} : DE X W (.Constant (.str x) j pos) (wC (.str x)) := d_of pe_str fun _ => .str _
/-! ### two values -/
abbrev DO2 := D → D → Cs → DP → Prop
def Adq (K : PySem.W.Frag) (r : R2) (o : DO2) : Prop := ∀ F cs H x y dx dy P Q, Sta K F (pur F cs H) cs H → Rep K (pur F cs H) x dx → Rep K (pur F cs H) y dy → o dx dy cs P → PostE K F (pur F cs H) P Q → r x y H Q
def wOp (o : DO2) (wa wb : WE) : WE := fun ρ cs P Z => wa ρ cs (fun x cs1 => wb ρ cs1 (fun y cs2 => o x y cs2 P) Z) Z
theorem bin_ok {r : R2} {o : DO2} {wa wb : WE} (adq : Adq K r o) {Q : VK} : lE K W (wOp o wa wb) σ H Q → tOp r (lE K W wa) (lE K W wb) σ H Q := by
  rintro ⟨F, cs, ρ, P, Z, s, re, hw, pe, px⟩
  refine ⟨F, cs, ρ, _, Z, s, re, hw, fun H1 cs1 v d s1 r1 h1 => ?_, px⟩
  refine ⟨F, cs1, ρ, _, Z, s1.self, re.mono s1.gr, h1, fun H2 cs2 v2 d2 s2 r2 h2 => ?_, px.le s1.gr⟩
  exact adq F cs2 H2 v v2 d d2 P Q s2.self (r1.mono s2.gr) r2 h2 (pe.le (s1.gr.trans s2.gr))
theorem d_op {op : Operator} {r : R2} {o : DO2} {a b : Expr} {wa wb : WE} {pos : Pos} (ho : OpR X (binaryOp op) r) (adq : Adq X.K r o) (ha : DE X W a wa) (hb : DE X W b wb) : DE X W (.BinOp a op b pos) (wOp o wa wb) :=
  PE.imp (pe_op ho ha hb) fun _ _ _ h => bin_ok adq h
theorem d_cmp {op : CmpOp} {r : R2} {o : DO2} {a b : Expr} {wa wb : WE} {pos : Pos} (ho : OpR X (compareOp op) r) (adq : Adq X.K r o) (ha : DE X W a wa) (hb : DE X W b wb) (hm : behindInMarks op b = false) : DE X W (.Compare a [op] [b] pos) (wOp o wa wb) :=
  PE.imp (pe_cmpR ho ha hb hm) fun _ _ _ h => bin_ok adq h
theorem d_ix {r : R2} {o : DO2} {a b : Expr} {wa wb : WE} {pos : Pos} (ho : IxR X r) (adq : Adq X.K r o) (ha : DE X W a wa) (hb : DE X W b wb) (hs : PlainIx b := by intro _ _; rfl) : DE X W (.Subscript a b pos) (wOp o wa wb) :=
  PE.imp (pe_ix ho ha hb hs) fun _ _ _ h => bin_ok adq h
def oI (g : Int → Int → D) : DO2 := fun x y cs P => match x, y with
  | .int i, .int j => P (g i j) cs
  | _, _ => False
def oIC (C : Int → Int → Prop) (g : Int → Int → D) : DO2 := fun x y cs P => match x, y with
  | .int i, .int j => C i j ∧ P (g i j) cs
  | _, _ => False
theorem adq_I0 {g : Int → Int → V} {g' : Int → Int → D} (h : ∀ i j G, Rep K G (g i j) (g' i j)) : Adq K (rI0 g) (oI g') := fun F cs H x y dx dy P Q s rx ry ho pe => by
  unfold oI at ho
  split at ho
  · cases rx; cases ry; exact ⟨_, _, rfl, rfl, pe H cs _ _ s (h _ _ _) ho⟩
  · exact ho.elim
theorem adq_I {C : Int → Int → Prop} {g : Int → Int → V} {g' : Int → Int → D} (h : ∀ i j G, Rep K G (g i j) (g' i j)) : Adq K (rI C g) (oIC C g') := fun F cs H x y dx dy P Q s rx ry ho pe => by
  unfold oIC at ho
  split at ho
  · cases rx; cases ry; exact ⟨_, _, rfl, rfl, ho.1, pe H cs _ _ s (h _ _ _) ho.2⟩
  · exact ho.elim
theorem op_mulX : OpR X (binaryOp .Mult) (rI IntMulOk fun i j => .int (i * j)) := opI fun _ _ _ _ _ _ _ hc q => PyProof.Rows.mul_int q hc
variable {a b : Expr} {wa wb : WE} {pos : Pos}
def oAdd : DO2 := oI fun i j => .int (i + j)
def oSub : DO2 := oI fun i j => .int (i - j)
def oMul : DO2 := oIC IntMulOk fun i j => .int (i * j)
def oDiv : DO2 := oIC CDivW fun i j => .int (i / j)
def oMod : DO2 := oIC (fun _ j => 0 < j) fun i j => .int (i % j)
def oPow : DO2 := oIC CPow fun i j => .int (i ^ j.toNat)
theorem d_add (ha : DE X W a wa) (hb : DE X W b wb) : DE X W (.BinOp a .Add b pos) (wOp oAdd wa wb) := d_op op_add (adq_I0 fun _ _ _ => .int _) ha hb
theorem d_sub (ha : DE X W a wa) (hb : DE X W b wb) : DE X W (.BinOp a .Sub b pos) (wOp oSub wa wb) := d_op op_sub (adq_I0 fun _ _ _ => .int _) ha hb
theorem d_mul (ha : DE X W a wa) (hb : DE X W b wb) : DE X W (.BinOp a .Mult b pos) (wOp oMul wa wb) := d_op op_mulX (adq_I fun _ _ _ => .int _) ha hb
theorem d_fdiv (ha : DE X W a wa) (hb : DE X W b wb) : DE X W (.BinOp a .FloorDiv b pos) (wOp oDiv wa wb) := d_op op_fdivW (adq_I fun _ _ _ => .int _) ha hb
theorem d_mod (ha : DE X W a wa) (hb : DE X W b wb) : DE X W (.BinOp a .Mod b pos) (wOp oMod wa wb) := d_op op_mod (adq_I fun _ _ _ => .int _) ha hb
theorem d_pow (ha : DE X W a wa) (hb : DE X W b wb) : DE X W (.BinOp a .Pow b pos) (wOp oPow wa wb) := d_op op_pow (adq_I fun _ _ _ => .int _) ha hb
def oLt : DO2 := oI fun i j => .bl (decide (i < j))
def oLe : DO2 := oI fun i j => .bl (decide (i ≤ j))
def oGt : DO2 := oI fun i j => .bl (decide (j < i))
def oGe : DO2 := oI fun i j => .bl (decide (j ≤ i))
theorem d_lt (ha : DE X W a wa) (hb : DE X W b wb) : DE X W (.Compare a [.Lt] [b] pos) (wOp oLt wa wb) := d_cmp op_lt (adq_I0 fun _ _ _ => .bl _) ha hb (nomark _)
theorem d_le (ha : DE X W a wa) (hb : DE X W b wb) : DE X W (.Compare a [.LtE] [b] pos) (wOp oLe wa wb) := d_cmp op_le (adq_I0 fun _ _ _ => .bl _) ha hb (nomark _)
theorem d_gt (ha : DE X W a wa) (hb : DE X W b wb) : DE X W (.Compare a [.Gt] [b] pos) (wOp oGt wa wb) := d_cmp op_gt (adq_I0 fun _ _ _ => .bl _) ha hb (nomark _)
theorem d_ge (ha : DE X W a wa) (hb : DE X W b wb) : DE X W (.Compare a [.GtE] [b] pos) (wOp oGe wa wb) := d_cmp op_ge (adq_I0 fun _ _ _ => .bl _) ha hb (nomark _)
/-! ### unary minus -/
def wUn (o : D → Cs → DP → Prop) (wa : WE) : WE := fun ρ cs P Z => wa ρ cs (fun x cs1 => o x cs1 P) Z
def oNeg : D → Cs → DP → Prop := fun x cs P => match x with
  | .int i => P (.int (-i)) cs
  | _ => False
theorem oNeg_inv {x : D} {cs : Cs} {P : DP} (h : oNeg x cs P) : ∃ i, x = .int i ∧ P (.int (-i)) cs := by
  cases x <;> first | exact h.elim | exact ⟨_, rfl, h⟩
theorem d_neg (ha : DE X W a wa) : DE X W (.UnaryOp .USub a pos) (wUn oNeg wa) := PE.imp (pe_un un_neg ha) fun σ H Q ⟨F, cs, ρ, P, Z, s, re, hw, pe, px⟩ =>
  ⟨F, cs, ρ, _, Z, s, re, hw, fun H1 cs1 v d s1 r1 h1 => by
    obtain ⟨i, rfl, h⟩ := oNeg_inv h1
    cases r1
    exact ⟨_, rfl, pe H1 cs1 _ _ s1 (.int _) h⟩, px⟩
/-! ### == and != of data -/
mutual
def pyD : D → PyData
  | .bl b => .bool b
  | .int i => .int i
  | .str x => .str x
  | .tup xs => .tuple (pyL xs)
  | .lst xs => .list (pyL xs)
  | .non | .dic _ | .dct _ | .opq _ | .ins _ _ | .xcp _ _ _ _ => .none
def pyL : List D → List PyData
  | [] => []
  | d :: ds => pyD d :: pyL ds
end
mutual
/-- plain data: no dict, nothing opaque, at most n levels of lists and tuples -/
def plD : Nat → D → Bool
  | n + 1, .tup xs => decide (xs.length ≤ 100000) && plL n xs
  | n + 1, .lst xs => decide (xs.length ≤ 100000) && plL n xs
  | _, .non | _, .bl _ | _, .int _ | _, .str _ => true
  | _, _ => false
def plL : Nat → List D → Bool
  | _, [] => true
  | n, d :: ds => plD n d && plL n ds
end
theorem plD_t {n : Nat} {xs : List D} (h : plD (n + 1) (.tup xs) = true) : plL n xs = true := by
  simp only [plD, Bool.and_eq_true] at h; exact h.2
theorem plD_l {n : Nat} {xs : List D} (h : plD (n + 1) (.lst xs) = true) : plL n xs = true := by
  simp only [plD, Bool.and_eq_true] at h; exact h.2
theorem plD_tn {n : Nat} {xs : List D} (h : plD (n + 1) (.tup xs) = true) : xs.length ≤ 100000 := by
  simp only [plD, Bool.and_eq_true, decide_eq_true_eq] at h; exact h.1
theorem plD_ln {n : Nat} {xs : List D} (h : plD (n + 1) (.lst xs) = true) : xs.length ≤ 100000 := by
  simp only [plD, Bool.and_eq_true, decide_eq_true_eq] at h; exact h.1
theorem plD_tI {n : Nat} {xs : List D} (h : plL n xs = true) (hl : xs.length ≤ 100000) : plD (n + 1) (.tup xs) = true := by
  simp only [plD, Bool.and_eq_true, decide_eq_true_eq]; exact ⟨hl, h⟩
theorem plD_lI {n : Nat} {xs : List D} (h : plL n xs = true) (hl : xs.length ≤ 100000) : plD (n + 1) (.lst xs) = true := by
  simp only [plD, Bool.and_eq_true, decide_eq_true_eq]; exact ⟨hl, h⟩
mutual
def eqD : D → D → Bool
  | .non, .non => true
  | .bl a, .bl b => a == b
  | .bl a, .int j => (if a then 1 else 0) == j
  | .int i, .bl b => i == (if b then 1 else 0)
  | .int i, .int j => i == j
  | .str x, .str y => x == y
  | .lst xs, .lst ys => eqL xs ys
  | .tup xs, .tup ys => eqL xs ys
  | _, _ => false
def eqL : List D → List D → Bool
  | [], [] => true
  | x :: xs, y :: ys => eqD x y && eqL xs ys
  | _, _ => false
end
mutual
theorem plD_plain : ∀ (d : D) (n : Nat), plD n d = true → (pyD d).plain = true ∧ (pyD d).depth ≤ n
  | .non, n, _ => ⟨by simp [pyD, PyData.plain], by simp [pyD, PyData.depth]⟩
  | .bl _, n, _ => ⟨by simp [pyD, PyData.plain], by simp [pyD, PyData.depth]⟩
  | .int _, n, _ => ⟨by simp [pyD, PyData.plain], by simp [pyD, PyData.depth]⟩
  | .str _, n, _ => ⟨by simp [pyD, PyData.plain], by simp [pyD, PyData.depth]⟩
  | .tup xs, 0, h => by simp [plD] at h
  | .lst xs, 0, h => by simp [plD] at h
  | .tup xs, n + 1, h => by
    have h' := plL_plain xs n (plD_t h)
    simp only [pyD, PyData.plain, PyData.depth]
    exact ⟨h'.1, Nat.succ_le_succ h'.2⟩
  | .lst xs, n + 1, h => by
    have h' := plL_plain xs n (plD_l h)
    simp only [pyD, PyData.plain, PyData.depth]
    exact ⟨h'.1, Nat.succ_le_succ h'.2⟩
  | .dic _, n, h => by cases n <;> simp [plD] at h
  | .dct _, n, h => by cases n <;> simp [plD] at h
  | .ins _ _, n, h => by cases n <;> simp [plD] at h
  | .xcp _ _ _ _, n, h => by cases n <;> simp [plD] at h
  | .opq _, n, h => by cases n <;> simp [plD] at h
theorem plL_plain : ∀ (ds : List D) (n : Nat), plL n ds = true → PyData.plainAll (pyL ds) = true ∧ PyData.depthAll (pyL ds) ≤ n
  | [], n, _ => ⟨by simp [pyL, PyData.plainAll], by simp [pyL, PyData.depthAll]⟩
  | d :: ds, n, h => by
    simp only [plL, Bool.and_eq_true] at h
    have h1 := plD_plain d n h.1
    have h2 := plL_plain ds n h.2
    simp only [pyL, PyData.plainAll, PyData.depthAll, Bool.and_eq_true]
    exact ⟨⟨h1.1, h2.1⟩, Nat.max_le.mpr ⟨h1.2, h2.2⟩⟩
end
mutual
theorem eqD_eqv : ∀ (d e : D) (n m : Nat), plD n d = true → plD m e = true → PyData.eqv (pyD d) (pyD e) = eqD d e := by
  intro d e n m hd he
  cases d <;> cases e <;> first
    | (simp [pyD, PyData.eqv, eqD]; done)
    | (cases n <;> simp [plD] at hd; done)
    | (cases m <;> simp [plD] at he; done)
    | (cases n with
       | zero => simp [plD] at hd
       | succ n => cases m with
         | zero => simp [plD] at he
         | succ m => simp only [pyD, PyData.eqv, eqD]; exact eqL_eqv _ _ n m (by first | exact plD_t hd | exact plD_l hd) (by first | exact plD_t he | exact plD_l he))
theorem eqL_eqv : ∀ (d e : List D) (n m : Nat), plL n d = true → plL m e = true → PyData.eqvAll (pyL d) (pyL e) = eqL d e
  | [], [], _, _, _, _ => by simp [pyL, PyData.eqvAll, eqL]
  | [], _ :: _, _, _, _, _ => by simp [pyL, PyData.eqvAll, eqL]
  | _ :: _, [], _, _, _, _ => by simp [pyL, PyData.eqvAll, eqL]
  | d :: ds, e :: es, n, m, hd, he => by
    simp only [plL, Bool.and_eq_true] at hd he
    simp only [pyL, PyData.eqvAll, eqL]
    rw [eqD_eqv d e n m hd.1 he.1, eqL_eqv ds es n m hd.2 he.2]
end
mutual
theorem Rep.dp {G : Hp} (e : Ex G H) : ∀ {v : V} {d : D} (n : Nat), Rep K G v d → plD n d = true → Dp K H v (pyD d)
  | _, _, n, .non, _ => .non
  | _, _, n, .bl b, _ => .bl b
  | _, _, n, .int i, _ => .int i
  | _, _, n, .str x, _ => .str x
  | _, _, n, .opq v, h => by cases n <;> simp [plD] at h
  | _, _, 0, .lst h r, p => by simp [plD] at p
  | _, _, 0, .tup h r, p => by simp [plD] at p
  | _, _, n + 1, .lst h r, p => by
    simp only [pyD]
    exact .lst (ex_l e h) (RepL.dp e n r (plD_l p))
  | _, _, n + 1, .tup h r, p => by
    simp only [pyD]
    exact .tup (ex_t e h) (RepL.dp e n r (plD_t p))
  | _, _, n, .dic _ _, h => by cases n <;> simp [plD] at h
  | _, _, n, .dct _ _, h => by cases n <;> simp [plD] at h
  | _, _, n, .ins _ _ _, h => by cases n <;> simp [plD] at h
  | _, _, n, .xcp _ _, h => by cases n <;> simp [plD] at h
theorem RepL.dp {G : Hp} (e : Ex G H) : ∀ {v : List V} {d : List D} (n : Nat), RepL K G v d → plL n d = true → DpAll K H v (pyL d)
  | _, _, _, .nil, _ => by simp only [pyL]; exact .nil
  | _, _, n, .cons h r, p => by
    simp only [plL, Bool.and_eq_true] at p
    simp only [pyL]
    exact .cons (Rep.dp e n h p.1) (RepL.dp e n r p.2)
end
theorem pur_le {F : Hp} {cs : Cs} : Ex (pur F cs H) H := fun _ _ h => (pur_of h).1
/-- x == y of plain data -/
def oEq : DO2 := fun x y cs P => plD 20 x = true ∧ plD 20 y = true ∧ P (.bl (eqD x y)) cs
def oNe : DO2 := fun x y cs P => plD 20 x = true ∧ plD 20 y = true ∧ P (.bl (!eqD x y)) cs
def rEqP (K : PySem.W.Frag) : R2 := fun x y H Q => ∃ d e, Dp K H x d ∧ Dp K H y e ∧ d.plain = true ∧ e.plain = true ∧ d.depth ≤ 64 ∧ Q (.bl (PyData.eqv d e)) H
def rNeP (K : PySem.W.Frag) : R2 := fun x y H Q => ∃ d e, Dp K H x d ∧ Dp K H y e ∧ d.plain = true ∧ e.plain = true ∧ d.depth ≤ 64 ∧ Q (.bl (!PyData.eqv d e)) H
theorem room_plain {A : Around} {da db : PyData} (h : da.depth ≤ 64) (hu : A.units + 64 < cLine) : A.units + min da.depth db.depth < cLine := by
  have h2 : min da.depth db.depth ≤ da.depth := Nat.min_le_left _ _
  omega
theorem op_eqP (hu : X.A.units + 64 < cLine) : OpR X (compareOp .Eq) (rEqP X.K) := by
  intro pins s σ H x y v u Q I rx ry h
  obtain ⟨d, e, hd, he, p1, p2, p3, q⟩ := h
  obtain ⟨as, r1⟩ := Dp.reads I d x v hd rx
  obtain ⟨bs, r2⟩ := Dp.reads I e y u he ry
  exact PySem.SeqAt.eq_plain r1 r2 p1 p2 (room_plain p3 hu) ⟨.bl _, H, I, rfl, q⟩
theorem op_neP (hu : X.A.units + 64 < cLine) : OpR X (compareOp .NotEq) (rNeP X.K) := by
  intro pins s σ H x y v u Q I rx ry h
  obtain ⟨d, e, hd, he, p1, p2, p3, q⟩ := h
  obtain ⟨as, r1⟩ := Dp.reads I d x v hd rx
  obtain ⟨bs, r2⟩ := Dp.reads I e y u he ry
  exact PySem.SeqAt.ne_plain r1 r2 p1 p2 (room_plain p3 hu) ⟨.bl _, H, I, rfl, q⟩
theorem adq_eq : Adq K (rEqP K) oEq := fun F cs H x y dx dy P Q s rx ry ho pe => by
  obtain ⟨p1, p2, h⟩ := ho
  have a1 := plD_plain dx 20 p1
  have a2 := plD_plain dy 20 p2
  refine ⟨_, _, Rep.dp pur_le 20 rx p1, Rep.dp pur_le 20 ry p2, a1.1, a2.1, Nat.le_trans a1.2 (by decide), ?_⟩
  rw [eqD_eqv dx dy 20 20 p1 p2]
  exact pe H cs _ _ s (.bl _) h
theorem adq_ne : Adq K (rNeP K) oNe := fun F cs H x y dx dy P Q s rx ry ho pe => by
  obtain ⟨p1, p2, h⟩ := ho
  have a1 := plD_plain dx 20 p1
  have a2 := plD_plain dy 20 p2
  refine ⟨_, _, Rep.dp pur_le 20 rx p1, Rep.dp pur_le 20 ry p2, a1.1, a2.1, Nat.le_trans a1.2 (by decide), ?_⟩
  rw [eqD_eqv dx dy 20 20 p1 p2]
  exact pe H cs _ _ s (.bl _) h
theorem d_eq (hu : X.A.units + 64 < cLine) (ha : DE X W a wa) (hb : DE X W b wb) : DE X W (.Compare a [.Eq] [b] pos) (wOp oEq wa wb) := d_cmp (op_eqP hu) adq_eq ha hb (nomark _)
theorem d_ne (hu : X.A.units + 64 < cLine) (ha : DE X W a wa) (hb : DE X W b wb) : DE X W (.Compare a [.NotEq] [b] pos) (wOp oNe wa wb) := d_cmp (op_neP hu) adq_ne ha hb (nomark _)
/-! ### subscripts -/
def atD (xs : List D) (i : Int) : Option D := atI xs i
def oIx : DO2 := fun x y cs P => match x, y with
  | .tup xs, .int i => (match atD xs i with
    | some d => P d cs
    | none => False)
  | .lst xs, .int i => (match atD xs i with
    | some d => P d cs
    | none => False)
  | _, _ => False
theorem RepL.atI {G : Hp} {vs : List V} {ds : List D} {i : Int} {d : D} (r : RepL K G vs ds) (h : atI ds i = some d) : ∃ v, atI vs i = some v ∧ Rep K G v d := by
  unfold L2.atI at h ⊢
  rw [r.length]
  cases e : ixN ds.length i with
  | none => rw [e] at h; cases h
  | some j =>
    rw [e] at h
    exact r.get h
theorem adq_ix : Adq K (rIx K) oIx := fun F cs H x y dx dy P Q s rx ry ho pe => by
  unfold oIx at ho
  split at ho
  · rename_i xs i
    cases ry
    cases rx with
    | tup h r =>
      split at ho
      · rename_i d e
        obtain ⟨v, e1, e2⟩ := r.atI e
        exact .inr (.inl ⟨_, _, _, v, rfl, rfl, ex_t pur_le h, e1, pe H cs _ _ s e2 ho⟩)
      · exact ho.elim
  · rename_i xs i
    cases ry
    cases rx with
    | lst h r =>
      split at ho
      · rename_i d e
        obtain ⟨v, e1, e2⟩ := r.atI e
        exact .inl ⟨_, _, _, v, rfl, rfl, ex_l pur_le h, e1, pe H cs _ _ s e2 ho⟩
      · exact ho.elim
  · exact ho.elim
theorem d_sub_ix (ha : DE X W a wa) (hb : DE X W b wb) (hs : PlainIx b := by intro _ _; rfl) : DE X W (.Subscript a b pos) (wOp oIx wa wb) := d_ix ix_seq adq_ix ha hb hs
end
end DL
namespace DL
open PySem L2
section
variable {X : Cx} {W : WX} {K : PySem.W.Frag} {σ : St} {H : Hp} {a b c : Expr} {wa wb wc : WE} {pos : Pos}
/-! ### tests -/
def wTest (wa : WE) : WT := fun ρ cs P Z => wa ρ cs (fun x cs1 => match x with
  | .bl k => P k cs1
  | _ => False) Z
theorem test_inv {x : D} {cs : Cs} {P : Bool → Cs → Prop} (h : (match x with | D.bl k => P k cs | _ => False)) : ∃ k, x = .bl k ∧ P k cs := by
  cases x <;> first | exact h.elim | exact ⟨_, rfl, h⟩
theorem test_ok {W : WX} {Q : Bool → Hp → Prop} : lT K W (wTest wa) σ H Q → tTest (lE K W wa) σ H Q := by
  rintro ⟨F, cs, ρ, P, Z, s, re, hw, pe, px⟩
  refine ⟨F, cs, ρ, _, Z, s, re, hw, fun H1 cs1 v d s1 r1 h1 => ?_, px⟩
  obtain ⟨k, rfl, h⟩ := test_inv h1
  cases r1
  exact ⟨k, rfl, pe H1 cs1 k s1 h⟩
/-- a comparison as a test -/
theorem dt_cmp {op : CmpOp} {r : R2} {o : DO2} (ho : OpR X (compareOp op) r) (adq : Adq X.K r o) (ha : DE X W a wa) (hb : DE X W b wb) (hm : behindInMarks op b = false) : DT X W (.Compare a [op] [b] pos) (wTest (wOp o wa wb)) :=
  PT.imp (pt_cmpR ho ha hb hm) fun σ H Q h => by
    obtain ⟨F, cs, ρ, P, Z, s, re, hw, pe, px⟩ := h
    have h2 : lE X.K W (wOp o wa wb) σ H (fun x H' => ∃ k, x = V.bl k ∧ Q k H') := ⟨F, cs, ρ, _, Z, s, re, hw, fun H1 cs1 v d s1 r1 h1 => by
      obtain ⟨k, rfl, h⟩ := test_inv h1
      cases r1
      exact ⟨k, rfl, pe H1 cs1 k s1 h⟩, px⟩
    exact bin_ok adq h2
theorem dt_lt (ha : DE X W a wa) (hb : DE X W b wb) : DT X W (.Compare a [.Lt] [b] pos) (wTest (wOp oLt wa wb)) := dt_cmp op_lt (adq_I0 fun _ _ _ => .bl _) ha hb (nomark _)
theorem dt_le (ha : DE X W a wa) (hb : DE X W b wb) : DT X W (.Compare a [.LtE] [b] pos) (wTest (wOp oLe wa wb)) := dt_cmp op_le (adq_I0 fun _ _ _ => .bl _) ha hb (nomark _)
theorem dt_gt (ha : DE X W a wa) (hb : DE X W b wb) : DT X W (.Compare a [.Gt] [b] pos) (wTest (wOp oGt wa wb)) := dt_cmp op_gt (adq_I0 fun _ _ _ => .bl _) ha hb (nomark _)
theorem dt_ge (ha : DE X W a wa) (hb : DE X W b wb) : DT X W (.Compare a [.GtE] [b] pos) (wTest (wOp oGe wa wb)) := dt_cmp op_ge (adq_I0 fun _ _ _ => .bl _) ha hb (nomark _)
theorem dt_eq (hu : X.A.units + 64 < cLine) (ha : DE X W a wa) (hb : DE X W b wb) : DT X W (.Compare a [.Eq] [b] pos) (wTest (wOp oEq wa wb)) := dt_cmp (op_eqP hu) adq_eq ha hb (nomark _)
theorem dt_ne (hu : X.A.units + 64 < cLine) (ha : DE X W a wa) (hb : DE X W b wb) : DT X W (.Compare a [.NotEq] [b] pos) (wTest (wOp oNe wa wb)) := dt_cmp (op_neP hu) adq_ne ha hb (nomark _)
/-- an expression that gives a truth value, as a test -/
theorem dt_val {e : Expr} {w : WE} (h : DE X W e w) (he : ∀ whole, isTrue e X.env whole = (do let v ← whole; standAt e.pos; holding [v] (truthy v)) := by intro _; rfl) : DT X W e (wTest w) :=
  PT.imp (pt_val h he) fun σ H Q h => by
    obtain ⟨F, cs, ρ, P, Z, s, re, hw, pe, px⟩ := h
    refine ⟨F, cs, ρ, _, Z, s, re, hw, fun H1 cs1 v d s1 r1 h1 => ?_, px⟩
    obtain ⟨k, rfl, h⟩ := test_inv h1
    cases r1
    exact ⟨k, rfl, pe H1 cs1 k s1 h⟩
variable {ta tb : WT} {rest : List Expr}
def wAnd (ta tb : WT) : WT := fun ρ cs P Z => ta ρ cs (fun k cs1 => (k = true → tb ρ cs1 P Z) ∧ (k = false → P false cs1)) Z
def wOr (ta tb : WT) : WT := fun ρ cs P Z => ta ρ cs (fun k cs1 => (k = true → P true cs1) ∧ (k = false → tb ρ cs1 P Z)) Z
def wNot (ta : WT) : WT := fun ρ cs P Z => ta ρ cs (fun k cs1 => P (!k) cs1) Z
theorem dw_and1 (ha : DT X W a ta) : DW X W (.BoolOp .And [a] pos) ta := pw_and1 ha
theorem dw_or1 (ha : DT X W a ta) : DW X W (.BoolOp .Or [a] pos) ta := pw_or1 ha
theorem dw_and (ha : DT X W a ta) (hb : DW X W (.BoolOp .And (b :: rest) pos) tb) : DW X W (.BoolOp .And (a :: b :: rest) pos) (wAnd ta tb) :=
  PW.imp (pw_and ha hb) fun σ H Q h => by
    obtain ⟨F, cs, ρ, P, Z, s, re, hw, pe, px⟩ := h
    refine ⟨F, cs, ρ, _, Z, s, re, hw, fun H1 cs1 k s1 h1 => ?_, px⟩
    cases k with
    | true => exact iteT ⟨F, cs1, ρ, P, Z, s1.self, re.mono s1.gr, h1.1 rfl, fun H2 cs2 k s2 h2 => pe H2 cs2 k (s2.from_ s1.gr) h2, px.le s1.gr⟩
    | false => exact iteF (pe H1 cs1 false s1 (h1.2 rfl))
theorem dw_or (ha : DT X W a ta) (hb : DW X W (.BoolOp .Or (b :: rest) pos) tb) : DW X W (.BoolOp .Or (a :: b :: rest) pos) (wOr ta tb) :=
  PW.imp (pw_or ha hb) fun σ H Q h => by
    obtain ⟨F, cs, ρ, P, Z, s, re, hw, pe, px⟩ := h
    refine ⟨F, cs, ρ, _, Z, s, re, hw, fun H1 cs1 k s1 h1 => ?_, px⟩
    cases k with
    | false => exact iteF ⟨F, cs1, ρ, P, Z, s1.self, re.mono s1.gr, h1.2 rfl, fun H2 cs2 k s2 h2 => pe H2 cs2 k (s2.from_ s1.gr) h2, px.le s1.gr⟩
    | true => exact iteT (pe H1 cs1 true s1 (h1.1 rfl))
theorem dt_w {e : Expr} (h : DW X W e ta) : DT X W e ta := h.pt
theorem dt_not (ha : DT X W a ta) : DT X W (.UnaryOp .Not a pos) (wNot ta) :=
  PT.imp (pt_not ha) fun σ H Q h => by
    obtain ⟨F, cs, ρ, P, Z, s, re, hw, pe, px⟩ := h
    exact ⟨F, cs, ρ, _, Z, s, re, hw, fun H1 cs1 k s1 h1 => pe H1 cs1 _ s1 h1, px⟩
/-- as values -/
def wAndV (wa wb : WE) : WE := fun ρ cs P Z => wa ρ cs (fun x cs1 => match x with
  | .bl k => (k = true → wb ρ cs1 P Z) ∧ (k = false → P (.bl false) cs1)
  | _ => False) Z
def wOrV (wa wb : WE) : WE := fun ρ cs P Z => wa ρ cs (fun x cs1 => match x with
  | .bl k => (k = true → P (.bl true) cs1) ∧ (k = false → wb ρ cs1 P Z)
  | _ => False) Z
def wNotV (wa : WE) : WE := fun ρ cs P Z => wa ρ cs (fun x cs1 => match x with
  | .bl k => P (.bl (!k)) cs1
  | _ => False) Z
theorem d_one {op} (h : DE X W a wa) : DE X W (.BoolOp op [a] pos) wa := pe_one h
theorem d_and (ha : DE X W a wa) (hb : DE X W (.BoolOp .And (b :: rest) pos) wb) : DE X W (.BoolOp .And (a :: b :: rest) pos) (wAndV wa wb) :=
  PE.imp (pe_and ha hb) fun σ H Q h => by
    obtain ⟨F, cs, ρ, P, Z, s, re, hw, pe, px⟩ := h
    refine ⟨F, cs, ρ, _, Z, s, re, hw, fun H1 cs1 v d s1 r1 h1 => ?_, px⟩
    cases d <;> try exact h1.elim
    rename_i k
    cases r1
    cases k with
    | true => exact ⟨true, rfl, iteT ⟨F, cs1, ρ, P, Z, s1.self, re.mono s1.gr, h1.1 rfl, pe.le s1.gr, px.le s1.gr⟩⟩
    | false => exact ⟨false, rfl, iteF (pe H1 cs1 _ _ s1 (.bl _) (h1.2 rfl))⟩
theorem d_or (ha : DE X W a wa) (hb : DE X W (.BoolOp .Or (b :: rest) pos) wb) : DE X W (.BoolOp .Or (a :: b :: rest) pos) (wOrV wa wb) :=
  PE.imp (pe_or ha hb) fun σ H Q h => by
    obtain ⟨F, cs, ρ, P, Z, s, re, hw, pe, px⟩ := h
    refine ⟨F, cs, ρ, _, Z, s, re, hw, fun H1 cs1 v d s1 r1 h1 => ?_, px⟩
    cases d <;> try exact h1.elim
    rename_i k
    cases r1
    cases k with
    | true => exact ⟨true, rfl, iteT (pe H1 cs1 _ _ s1 (.bl _) (h1.1 rfl))⟩
    | false => exact ⟨false, rfl, iteF ⟨F, cs1, ρ, P, Z, s1.self, re.mono s1.gr, h1.2 rfl, pe.le s1.gr, px.le s1.gr⟩⟩
theorem d_not (ha : DE X W a wa) : DE X W (.UnaryOp .Not a pos) (wNotV wa) :=
  PE.imp (pe_not ha) fun σ H Q h => by
    obtain ⟨F, cs, ρ, P, Z, s, re, hw, pe, px⟩ := h
    refine ⟨F, cs, ρ, _, Z, s, re, hw, fun H1 cs1 v d s1 r1 h1 => ?_, px⟩
    cases d <;> try exact h1.elim
    rename_i k
    cases r1
    exact ⟨k, rfl, pe H1 cs1 _ _ s1 (.bl _) h1⟩
def wIf (t : WT) (wa wb : WE) : WE := fun ρ cs P Z => t ρ cs (fun k cs1 => (k = true → wa ρ cs1 P Z) ∧ (k = false → wb ρ cs1 P Z)) Z
theorem d_if (hc : DT X W c ta) (ha : DE X W a wa) (hb : DE X W b wb) : DE X W (.IfExp c a b pos) (wIf ta wa wb) :=
  PE.imp (pe_ifExp hc ha hb) fun σ H Q h => by
    obtain ⟨F, cs, ρ, P, Z, s, re, hw, pe, px⟩ := h
    refine ⟨F, cs, ρ, _, Z, s, re, hw, fun H1 cs1 k s1 h1 => ?_, px⟩
    cases k with
    | true => exact iteT ⟨F, cs1, ρ, P, Z, s1.self, re.mono s1.gr, h1.1 rfl, pe.le s1.gr, px.le s1.gr⟩
    | false => exact iteF ⟨F, cs1, ρ, P, Z, s1.self, re.mono s1.gr, h1.2 rfl, pe.le s1.gr, px.le s1.gr⟩
/-! ### arguments, displays -/
variable {e : Expr} {es : List Expr} {we : WE} {w : WA}
def wNil : WA := fun _ cs P _ => P [] cs
def wCons (we : WE) (w : WA) : WA := fun ρ cs P Z => we ρ cs (fun x cs1 => w ρ cs1 (fun xs cs2 => P (x :: xs) cs2) Z) Z
theorem da_nil : DA X W [] wNil := PA.imp pa_nil fun σ H Q ⟨F, cs, ρ, P, Z, s, re, hw, pe, px⟩ => pe H cs [] [] s .nil rfl hw
theorem da_cons (ha : DE X W e we) (hr : DA X W es w) (hs : starEach (e :: es) X.env = (false, eval e X.env) :: starEach es X.env := by rfl) : DA X W (e :: es) (wCons we w) :=
  PA.imp (pa_cons ha hr hs) fun σ H Q h => by
    obtain ⟨F, cs, ρ, P, Z, s, re, hw, pe, px⟩ := h
    refine ⟨F, cs, ρ, _, Z, s, re, hw, fun H1 cs1 v d s1 r1 h1 => ?_, px⟩
    refine ⟨F, cs1, ρ, _, Z, s1.self, re.mono s1.gr, h1, fun H2 cs2 vs ds s2 r2 l2 h2 => ?_, px.le s1.gr⟩
    exact pe H2 cs2 _ _ (s2.from_ s1.gr) (.cons (r1.mono s2.gr) r2) (congrArg Nat.succ l2) h2
def wTup (w : WA) : WE := fun ρ cs P Z => w ρ cs (fun ds cs1 => P (.tup ds) cs1) Z
def wLst (w : WA) : WE := fun ρ cs P Z => w ρ cs (fun ds cs1 => P (.lst ds) cs1) Z
/-- a new list that will change -/
def wLstM (w : WA) : WE := fun ρ cs P Z => w ρ cs (fun ds cs1 => ∀ p, p ∉ adr cs1 → P (.opq (.ref p)) ((p, .lst ds) :: cs1)) Z
theorem small_es {n : Nat} (h : n ≤ 1000) : n ≤ sizeLine := Nat.le_trans h (by decide)
theorem d_tup {x1} (h : DA X W es w) (hn : es.length ≤ 1000 := by decide) : DE X W (.Tuple es x1 pos) (wTup w) :=
  PE.imp (pe_tup h) fun σ H Q h => by
    obtain ⟨F, cs, ρ, P, Z, s, re, hw, pe, px⟩ := h
    refine ⟨F, cs, ρ, _, Z, s, re, hw, fun H1 cs1 vs ds s1 r1 l1 h1 => ⟨by rw [r1.length, l1]; exact small_es hn, fun p hp => ?_⟩, px⟩
    obtain ⟨s2, e2⟩ := s1.new (o := .tup vs) hp
    exact pe _ cs1 _ _ (s2.from_ s1.gr) (.tup (SqT.of e2) (r1.mono s2.gr)) h1
theorem d_lst (h : DA X W es w) (hn : es.length ≤ 1000 := by decide) : DE X W (.List es pos) (wLst w) :=
  PE.imp (pe_lst h) fun σ H Q h => by
    obtain ⟨F, cs, ρ, P, Z, s, re, hw, pe, px⟩ := h
    refine ⟨F, cs, ρ, _, Z, s, re, hw, fun H1 cs1 vs ds s1 r1 l1 h1 => ⟨by rw [r1.length, l1]; exact small_es hn, fun p hp => ?_⟩, px⟩
    obtain ⟨s2, e2⟩ := s1.new (o := .lst vs) hp
    exact pe _ cs1 _ _ (s2.from_ s1.gr) (.lst (SqL.of e2) (r1.mono s2.gr)) h1
theorem d_lstM (h : DA X W es w) (hn : es.length ≤ 1000 := by decide) : DE X W (.List es pos) (wLstM w) :=
  PE.imp (pe_lst h) fun σ H Q h => by
    obtain ⟨F, cs, ρ, P, Z, s, re, hw, pe, px⟩ := h
    refine ⟨F, cs, ρ, _, Z, s, re, hw, fun H1 cs1 vs ds s1 r1 l1 h1 => ⟨by rw [r1.length, l1]; exact small_es hn, fun p hp => ?_⟩, px⟩
    have s2 := s1.newM (m := .lst ds) (o := .lst vs) hp r1
    exact pe _ _ _ _ (s2.from_ s1.gr) (.opq _) (h1 p (s1.notin hp).2)
/-! ### calls of built-ins -/
abbrev DOn := List D → Cs → DP → Prop
def AdqN (K : PySem.W.Frag) (r : List V → Hp → VK → Prop) (o : DOn) : Prop := ∀ F cs H xs ds P Q, Sta K F (pur F cs H) cs H → RepL K (pur F cs H) xs ds → o ds cs P → PostE K F (pur F cs H) P Q → r xs H Q
def wCB (o : DOn) (w : WA) : WE := fun ρ cs P Z => w ρ cs (fun ds cs1 => o ds cs1 P) Z
theorem cb_ok {r : List V → Hp → VK → Prop} {o : DOn} {n : Nat} (adq : AdqN K r o) {Q : VK} : lE K W (wCB o w) σ H Q → tCB r (lA K W n w) σ H Q := by
  rintro ⟨F, cs, ρ, P, Z, s, re, hw, pe, px⟩
  exact ⟨F, cs, ρ, _, Z, s, re, hw, fun H1 cs1 vs ds s1 r1 l1 h1 => adq F cs1 H1 vs ds P Q s1.self r1 h1 (pe.le s1.gr), px⟩
variable {x : Str} {p : Pos} {id T : String} {r : List V → Hp → VK → Prop} {o : DOn}
theorem d_callB (hc : CallR X (.builtin id) r) (adq : AdqN X.K r o) (hg : Gl X x) (hm : X.mg x = none) (hv : bootBuiltins x = some (.builtin id)) (ha : DA X W (e :: es) w) (hn : x ≠ "__name__" := by decide) (hdb : (x == ("__debug__" : Str)) = false := by decide)
    (he : starEach (e :: es) X.env = (false, eval e X.env) :: starEach es X.env := by rfl) (hpl : (backTo pos (starEach es X.env)).any (·.1) = false := by rfl) : DE X W (.Call (.Name x p) (e :: es) [] pos) (wCB o w) :=
  PE.imp (pe_callB hc hg hm hv ha hn hdb he hpl) fun _ _ _ h => cb_ok adq h
theorem d_callTy (hc : CallR X (.type T) r) (adq : AdqN X.K r o) (hg : Gl X x) (hm : X.mg x = none) (hv : bootBuiltins x = some (.type T)) (ha : DA X W (e :: es) w) (hn : x ≠ "__name__" := by decide) (hdb : (x == ("__debug__" : Str)) = false := by decide)
    (he : starEach (e :: es) X.env = (false, eval e X.env) :: starEach es X.env := by rfl) (hpl : (backTo pos (starEach es X.env)).any (·.1) = false := by rfl) : DE X W (.Call (.Name x p) (e :: es) [] pos) (wCB o w) :=
  PE.imp (pe_callTy hc hg hm hv ha hn hdb he hpl) fun _ _ _ h => cb_ok adq h
def oAbs : DOn := fun ds cs P => match ds with
  | [.int i] => P (.int (if i < 0 then -i else i)) cs
  | _ => False
def oLen : DOn := fun ds cs P => match ds with
  | [.lst xs] => P (.int xs.length) cs
  | [.tup xs] => P (.int xs.length) cs
  | _ => False
def oList : DOn := fun ds cs P => match ds with
  | [.lst xs] => P (.lst xs) cs
  | [.tup xs] => P (.lst xs) cs
  | _ => False
theorem adq_abs : AdqN K (fun xs H Q => ∃ i, xs = [.int i] ∧ Q (.int (if i < 0 then -i else i)) H) oAbs := fun F cs H xs ds P Q s r ho pe => by
  unfold oAbs at ho
  split at ho
  · cases r with
    | cons h t => cases h; cases t; exact ⟨_, rfl, pe H cs _ _ s (.int _) ho⟩
  · exact ho.elim
theorem adq_len : AdqN K (fun xs H Q => ∃ p ys, xs = [.ref p] ∧ (SqL K H p ys ∨ SqT K H p ys) ∧ Q (.int ys.length) H) oLen := fun F cs H xs ds P Q s r ho pe => by
  unfold oLen at ho
  split at ho
  · cases r with
    | cons h t =>
      cases t
      cases h with
      | lst h r => exact ⟨_, _, rfl, .inl (ex_l pur_le h), by rw [r.length]; exact pe H cs _ _ s (.int _) ho⟩
  · cases r with
    | cons h t =>
      cases t
      cases h with
      | tup h r => exact ⟨_, _, rfl, .inr (ex_t pur_le h), by rw [r.length]; exact pe H cs _ _ s (.int _) ho⟩
  · exact ho.elim
theorem adq_list : AdqN K (fun xs H Q => ∃ p ys, xs = [.ref p] ∧ (SqL K H p ys ∨ SqT K H p ys) ∧ ∀ l, H l = none → Q (.ref l) (upd H l (.lst ys))) oList := fun F cs H xs ds P Q s r ho pe => by
  have fin : ∀ {ys : List V} {es : List D} {l : Addr}, RepL K (pur F cs H) ys es → H l = none → P (.lst es) cs → Q (.ref l) (upd H l (.lst ys)) := fun {ys es l} hr hl hp => by
    obtain ⟨s2, e2⟩ := s.new (o := .lst ys) hl
    exact pe _ cs _ _ s2 (.lst (SqL.of e2) (hr.mono s2.gr)) hp
  unfold oList at ho
  split at ho
  · cases r with
    | cons h t =>
      cases t
      cases h with
      | lst h r => exact ⟨_, _, rfl, .inl (ex_l pur_le h), fun l hl => fin r hl ho⟩
  · cases r with
    | cons h t =>
      cases t
      cases h with
      | tup h r => exact ⟨_, _, rfl, .inr (ex_t pur_le h), fun l hl => fin r hl ho⟩
  · exact ho.elim
/-! ### slices -/
abbrev WO := Env → Cs → (Option Int → Cs → Prop) → XZ → Prop
def lO (K : PySem.W.Frag) (W : WX) (w : WO) : TO := fun σ H Q => ∃ F cs ρ P Z, Sta K F (pur F cs H) cs H ∧ RepE K (pur F cs H) σ ρ ∧ w ρ cs P Z ∧ (∀ H' cs' b, Sta K F (pur F cs H) cs' H' → P b cs' → Q b H') ∧ PostX K F (pur F cs H) Z fun c d H' => W c d σ H'
abbrev DOp (X : Cx) (W : WX) (e : Option Expr) (w : WO) : Prop := PO X e (lO X.K W w)
theorem PO.imp {X : Cx} {e : Option Expr} {t t' : TO} (h : PO X e t) (i : ∀ σ H Q, t' σ H Q → t σ H Q) : PO X e t' := ⟨fun pins s σ H Q I q => h.run pins s σ H Q I (i σ H Q q)⟩
def wNoPart : WO := fun _ cs P _ => P none cs
def wPart (we : WE) : WO := fun ρ cs P Z => we ρ cs (fun x cs1 => match x with
  | .int i => P (some i) cs1
  | _ => False) Z
theorem do_none : DOp X W none wNoPart := PO.imp po_none fun σ H Q ⟨F, cs, ρ, P, Z, s, re, hw, pe, px⟩ => pe H cs none s hw
theorem do_some (h : DE X W e we) : DOp X W (some e) (wPart we) := PO.imp (po_some h) fun σ H Q h => by
  obtain ⟨F, cs, ρ, P, Z, s, re, hw, pe, px⟩ := h
  refine ⟨F, cs, ρ, _, Z, s, re, hw, fun H1 cs1 v d s1 r1 h1 => ?_, px⟩
  cases d <;> try exact h1.elim
  cases r1
  exact ⟨_, rfl, pe H1 cs1 _ s1 h1⟩
def cutD (xs : List D) (lo hi : Option Int) : List D := (xs.drop (HT.sIx xs.length 0 lo)).take (HT.sIx xs.length xs.length hi - HT.sIx xs.length 0 lo)
theorem RepL.cut {G : Hp} {vs : List V} {ds : List D} (r : RepL K G vs ds) (lo hi : Option Int) : RepL K G (cutV vs lo hi) (cutD ds lo hi) := by
  unfold cutV cutD
  rw [r.length]
  exact (r.drop _).take _
def oSlL : D → Option Int → Option Int → Cs → DP → Prop := fun x lo hi cs P => match x with
  | .lst xs => P (.lst (cutD xs lo hi)) cs
  | _ => False
def wSl (o : D → Option Int → Option Int → Cs → DP → Prop) (we : WE) (wl wh : WO) : WE := fun ρ cs P Z => we ρ cs (fun x cs1 => wl ρ cs1 (fun l cs2 => wh ρ cs2 (fun u cs3 => o x l u cs3 P) Z) Z) Z
def AdqS (K : PySem.W.Frag) (r : V → Option Int → Option Int → Hp → VK → Prop) (o : D → Option Int → Option Int → Cs → DP → Prop) : Prop := ∀ F cs H x dx lo hi P Q, Sta K F (pur F cs H) cs H → Rep K (pur F cs H) x dx → o dx lo hi cs P → PostE K F (pur F cs H) P Q → r x lo hi H Q
theorem d_slice {r : V → Option Int → Option Int → Hp → VK → Prop} {o : D → Option Int → Option Int → Cs → DP → Prop} {lo hi : Option Expr} {wl wh : WO} {p2 : Pos} (hr : SlR X r) (adq : AdqS X.K r o) (he : DE X W e we) (hl : DOp X W lo wl) (hu : DOp X W hi wh) :
    DE X W (.Subscript e (.Slice lo hi none p2) pos) (wSl o we wl wh) :=
  PE.imp (pe_slice hr he hl hu) fun σ H Q h => by
    obtain ⟨F, cs, ρ, P, Z, s, re, hw, pe, px⟩ := h
    refine ⟨F, cs, ρ, _, Z, s, re, hw, fun H1 cs1 v d s1 r1 h1 => ?_, px⟩
    refine ⟨F, cs1, ρ, _, Z, s1.self, re.mono s1.gr, h1, fun H2 cs2 l s2 h2 => ?_, px.le s1.gr⟩
    refine ⟨F, cs2, ρ, _, Z, s2.self, re.mono (s1.gr.trans s2.gr), h2, fun H3 cs3 u s3 h3 => ?_, px.le (s1.gr.trans s2.gr)⟩
    exact adq F cs3 H3 v d l u P Q s3.self (r1.mono (s2.gr.trans s3.gr)) h3 (pe.le ((s1.gr.trans s2.gr).trans s3.gr))
theorem adq_slL : AdqS K (rSlL K) oSlL := fun F cs H x dx lo hi P Q s rx ho pe => by
  unfold oSlL at ho
  split at ho
  · cases rx with
    | lst h r =>
      refine ⟨_, _, rfl, ex_l pur_le h, fun p hp => ?_⟩
      obtain ⟨s2, e2⟩ := s.new (o := .lst (cutV _ lo hi)) hp
      exact pe _ cs _ _ s2 (.lst (SqL.of e2) ((r.cut lo hi).mono s2.gr)) ho
  · exact ho.elim
end
end DL

namespace DL
open PySem L2
section
variable {X : Cx} {W : WX} {K : PySem.W.Frag} {σ : St} {H : Hp} {e c : Expr} {we : WE} {wt : WT} {pos : Pos} {st : Stmt} {rest A B : List Stmt} {u v : WS}
/-! ### blocks -/
def sNext : WS := fun f ρ cs => f.nx ρ cs
def sSeq (u v : WS) : WS := fun f ρ cs => u { f with nx := fun ρ' cs' => v f ρ' cs' } ρ cs
theorem dss_nil : DSs X W [] sNext := PSs.imp pss_nil fun E σ H ⟨F, cs, ρ, f, s, re, hw, pe⟩ => pe.nx H cs σ ρ s re hw
theorem dss_cons (h1 : DS X W st u) (h2 : DSs X W rest v) : DSs X W (st :: rest) (sSeq u v) := PSs.imp (pss_cons h1 h2) fun E σ H h => by
  obtain ⟨F, cs, ρ, f, s, re, hw, pe⟩ := h
  exact ⟨F, cs, ρ, _, s, re, hw, ⟨fun H1 cs1 σ1 ρ1 s1 re1 h1 => ⟨F, cs1, ρ1, f, s1.self, re1, h1, pe.le s1.gr⟩, pe.bk, pe.ct, pe.rt, pe.ex⟩⟩
theorem dss_one (h1 : DS X W st u) : DSs X W [st] u := PSs.imp (pss_one h1) fun E σ H h => h
def sBreak : WS := fun f ρ cs => f.bk ρ cs
def sCont : WS := fun f ρ cs => f.ct ρ cs
theorem ds_pass : DS X W (.Pass pos) sNext := PS.imp ps_pass fun E σ H ⟨F, cs, ρ, f, s, re, hw, pe⟩ => pe.nx H cs σ ρ s re hw
theorem ds_break : DS X W (.Break pos) sBreak := PS.imp ps_break fun E σ H ⟨F, cs, ρ, f, s, re, hw, pe⟩ => pe.bk H cs σ ρ s re hw
theorem ds_continue : DS X W (.Continue pos) sCont := PS.imp ps_continue fun E σ H ⟨F, cs, ρ, f, s, re, hw, pe⟩ => pe.ct H cs σ ρ s re hw
theorem PostS.px {F G : Hp} {f : Fin} {E : Ends} {ρ : Env} (pe : PostS K F G W f E) (re : RepE K G σ ρ) : PostX K F G (fun x cs => f.ex x ρ cs) fun c d H' => W c d σ H' :=
  fun H' cs' x d s r h => pe.ex H' cs' σ ρ x d s (re.mono s.gr) r h
def sDrop (we : WE) : WS := fun f ρ cs => we ρ cs (fun _ cs1 => f.nx ρ cs1) (fun x cs1 => f.ex x ρ cs1)
theorem ds_expr (he : DE X W e we) (hs : swapsWith e none pos.line X.env = pure false := by rfl) : DS X W (.Expr e pos) (sDrop we) := PS.imp (ps_expr he hs) fun E σ H h => by
  obtain ⟨F, cs, ρ, f, s, re, hw, pe⟩ := h
  exact ⟨F, cs, ρ, _, _, s, re, hw, fun H1 cs1 v d s1 r1 h1 => pe.nx H1 cs1 σ ρ s1 (re.mono s1.gr) h1, pe.px re⟩
def sRet (we : WE) : WS := fun f ρ cs => we ρ cs f.rt (fun x cs1 => f.ex x ρ cs1)
theorem ds_ret (he : DE X W e we) : DS X W (.Return (some e) pos) (sRet we) := PS.imp (ps_ret he) fun E σ H h => by
  obtain ⟨F, cs, ρ, f, s, re, hw, pe⟩ := h
  exact ⟨F, cs, ρ, _, _, s, re, hw, fun H1 cs1 v d s1 r1 h1 => pe.rt H1 cs1 v d s1 r1 h1, pe.px re⟩
def sRetN : WS := fun f _ cs => f.rt .non cs
theorem ds_retN : DS X W (.Return none pos) sRetN := PS.imp ps_retN fun E σ H ⟨F, cs, ρ, f, s, re, hw, pe⟩ => pe.rt H cs .non .non s .non hw
def sIf (wt : WT) (u v : WS) : WS := fun f ρ cs => wt ρ cs (fun k cs1 => (k = true → u f ρ cs1) ∧ (k = false → v f ρ cs1)) (fun x cs1 => f.ex x ρ cs1)
theorem ds_if (hc : DT X W c wt) (ha : DSs X W A u) (hb : DSs X W B v) : DS X W (.If c A B pos) (sIf wt u v) := PS.imp (ps_if hc ha hb) fun E σ H h => by
  obtain ⟨F, cs, ρ, f, s, re, hw, pe⟩ := h
  refine ⟨F, cs, ρ, _, _, s, re, hw, fun H1 cs1 k s1 h1 => ?_, pe.px re⟩
  cases k with
  | true => exact iteT ⟨F, cs1, ρ, f, s1.self, re.mono s1.gr, h1.1 rfl, pe.le s1.gr⟩
  | false => exact iteF ⟨F, cs1, ρ, f, s1.self, re.mono s1.gr, h1.2 rfl, pe.le s1.gr⟩
def sNever : WS := fun _ _ _ => False
theorem dss_never {sts : List Stmt} : DSs X W sts sNever := PSs.imp pss_never fun E σ H ⟨F, cs, ρ, f, s, re, hw, pe⟩ => hw
theorem ds_never : DS X W st sNever := PS.imp ps_never fun E σ H ⟨F, cs, ρ, f, s, re, hw, pe⟩ => hw
/-! ### targets -/
abbrev WG := D → Env → (Env → Prop) → Prop
abbrev WGs := List D → Env → (Env → Prop) → Prop
def lG (K : PySem.W.Frag) (g : WG) : TG := fun v σ H Q => ∃ F cs ρ d k, Sta K F (pur F cs H) cs H ∧ RepE K (pur F cs H) σ ρ ∧ Rep K (pur F cs H) v d ∧ g d ρ k ∧ ∀ σ' ρ' H', Sta K F (pur F cs H) cs H' → RepE K (pur F cs H') σ' ρ' → k ρ' → Q σ' H'
def lGs (K : PySem.W.Frag) (g : WGs) : TGs := fun v σ H Q => ∃ F cs ρ d k, Sta K F (pur F cs H) cs H ∧ RepE K (pur F cs H) σ ρ ∧ RepL K (pur F cs H) v d ∧ g d ρ k ∧ ∀ σ' ρ' H', Sta K F (pur F cs H) cs H' → RepE K (pur F cs H') σ' ρ' → k ρ' → Q σ' H'
abbrev DG (X : Cx) (tg : Expr) (g : WG) : Prop := PG X tg (lG X.K g)
abbrev DGs (X : Cx) (tg : List Expr) (g : WGs) : Prop := PGs X tg (lGs X.K g)
theorem PG.imp {X : Cx} {e : Expr} {t t' : TG} (h : PG X e t) (i : ∀ v σ H Q, t' v σ H Q → t v σ H Q) : PG X e t' := ⟨fun pins s σ H v u Q I r q => h.run pins s σ H v u Q I r (i v σ H Q q)⟩
theorem PGs.imp {X : Cx} {e : List Expr} {t t' : TGs} (h : PGs X e t) (i : ∀ v σ H Q, t' v σ H Q → t v σ H Q) : PGs X e t' := ⟨fun pins s σ H v u Q I r q => h.run pins s σ H v u Q I r (i v σ H Q q)⟩
def gN (i : Nat) : WG := fun d ρ k => k (ρ.set i (some d))
theorem dg_name {i : Nat} {x : Str} (hN : X.N.Nodup) (hi : X.N[i]? = some x) (hx : Loc X.env.scope x) (hf : X.fn x = true ∨ X.env.scope.names.lookup x = some .local := by first | exact .inl rfl | exact .inr rfl | assumption) : DG X (.Name x pos) (gN i) :=
  PG.imp (pg_name hN hi hx hf) fun v σ H Q ⟨F, cs, ρ, d, k, s, re, r, hw, q⟩ => q _ _ H s (re.set r i) hw
def gNl : WGs := fun ds ρ k => match ds with
  | [] => k ρ
  | _ => False
def gCn (g : WG) (gs : WGs) : WGs := fun ds ρ k => match ds with
  | d :: r => g d ρ fun ρ' => gs r ρ' k
  | [] => False
theorem dgs_nil : DGs X [] gNl := PGs.imp pgs_nil fun v σ H Q h => by
  obtain ⟨F, cs, ρ, d, k, s, re, r, hw, q⟩ := h
  cases r with
  | nil => exact ⟨rfl, q σ ρ H s re hw⟩
  | cons _ _ => exact hw.elim
theorem dgs_cons {es : List Expr} {g : WG} {gs : WGs} (h1 : DG X e g) (h2 : DGs X es gs) (hs : (assignEach (e :: es) X.env).map (·.2) = assign e X.env :: (assignEach es X.env).map (·.2) := by rfl) : DGs X (e :: es) (gCn g gs) := PGs.imp (pgs_cons h1 h2 hs) fun v σ H Q h => by
  obtain ⟨F, cs, ρ, d, k, s, re, r, hw, q⟩ := h
  cases r with
  | nil => exact hw.elim
  | cons r1 r2 => exact ⟨_, _, rfl, F, cs, ρ, _, _, s, re, r1, hw, fun σ1 ρ1 H1 s1 re1 h1 => ⟨F, cs, ρ1, _, k, s1.self, re1, r2.mono s1.gr, h1, fun σ2 ρ2 H2 s2 re2 h2 => q σ2 ρ2 H2 (s2.from_ s1.gr) re2 h2⟩⟩
/-- (a, b, ..) = a tuple of that length -/
def gT (n : Nat) (gs : WGs) : WG := fun d ρ k => match d with
  | .tup ds => ds.length = n ∧ gs ds ρ k
  | _ => False
theorem dg_tup {es : List Expr} {kk : Nat} {gs : WGs} {n : Nat} (hc : X.calm = true) (h : DGs X es gs) (hn : (assignEach es X.env).length = n := by rfl) (hst : (assignEach es X.env).findIdx? (·.1) = none := by rfl) : DG X (.Tuple es kk pos) (gT n gs) :=
  PG.imp (pg_tup hc h hn hst) fun v σ H Q hq => by
    obtain ⟨F, cs, ρ, d, k, s, re, r, hw, q⟩ := hq
    cases d <;> try exact hw.elim
    cases r with
    | tup h r => exact ⟨_, _, rfl, ex_t pur_le h, by rw [r.length]; exact hw.1, F, cs, ρ, _, k, s, re, r, hw.2, q⟩
/-! ### assignments -/
def sAsg (we : WE) (g : WG) : WS := fun f ρ cs => we ρ cs (fun d cs1 => g d ρ fun ρ' => f.nx ρ' cs1) (fun x cs1 => f.ex x ρ cs1)
theorem asg_ok {g : WG} {E : Ends} : lS K W (sAsg we g) E σ H → tAsg (lE K W we) (lG K g) E σ H := by
  rintro ⟨F, cs, ρ, f, s, re, hw, pe⟩
  exact ⟨F, cs, ρ, _, _, s, re, hw, fun H1 cs1 v d s1 r1 h1 => ⟨F, cs1, ρ, d, _, s1.self, re.mono s1.gr, r1, h1, fun σ2 ρ2 H2 s2 re2 h2 => pe.nx H2 cs1 σ2 ρ2 (s2.from_ s1.gr) re2 h2⟩, pe.px re⟩
theorem asgN_ok {i : Nat} {E : Ends} : lS K W (sAsg we (gN i)) E σ H → tAsg (lE K W we) (gName i) E σ H := by
  rintro ⟨F, cs, ρ, f, s, re, hw, pe⟩
  exact ⟨F, cs, ρ, _, _, s, re, hw, fun H1 cs1 v d s1 r1 h1 => pe.nx H1 cs1 _ _ s1 ((re.mono s1.gr).set r1 i) h1, pe.px re⟩
theorem ds_set {i : Nat} {x : Str} {pos' : Pos} (hN : X.N.Nodup) (hi : X.N[i]? = some x) (hx : Loc X.env.scope x) (he : DE X W e we) (hs : swapsWith e (some (.Name x pos')) pos.line X.env = pure false := by rfl)
    (hf : X.fn x = true ∨ X.env.scope.names.lookup x = some .local := by first | exact .inl rfl | exact .inr rfl | assumption) : DS X W (.Assign [.Name x pos'] e pos) (sAsg we (gN i)) :=
  PS.imp (ps_set (i := i) hN hi hx he hs hf) fun _ _ _ h => asgN_ok h
theorem ds_asg {tg : Expr} {g : WG} (he : DE X W e we) (hg : DG X tg g) (hs : swapsWithSole [tg] e pos.line X.env = pure false := by rfl) (hw : swappedStores [tg] e X.env = pure none := by rfl)
    (h1 : (assignEach [tg] X.env).map (·.2) = [assign tg X.env] := by rfl) : DS X W (.Assign [tg] e pos) (sAsg we g) := PS.imp (ps_asg he hg hs hw h1) fun _ _ _ h => asg_ok h
def sPar (i j : Nat) (w : WA) : WS := fun f ρ cs => w ρ cs (fun ds cs1 => match ds with
  | [x, y] => f.nx ((ρ.set i (some x)).set j (some y)) cs1
  | _ => False) (fun x cs1 => f.ex x ρ cs1)
theorem par_inv {ds : List D} {g : D → D → Prop} (h : (match ds with | [x, y] => g x y | _ => False)) : ∃ x y, ds = [x, y] ∧ g x y := by
  match ds, h with
  | [x, y], h => exact ⟨x, y, rfl, h⟩
theorem ds_par {i j : Nat} {x y : Str} {a b : Expr} {w : WA} {px py pt : Pos} {kt k2 pt2} (hc : X.calm = true) (hN : X.N.Nodup) (hi : X.N[i]? = some x) (hj : X.N[j]? = some y) (hij : i ≠ j)
    (hx : X.env.scope.names.lookup x = some .local) (hy : X.env.scope.names.lookup y = some .local) (ha : DA X W [a, b] w)
    (hw : swappedStores [.Tuple [.Name x px, .Name y py] kt pt] (.Tuple [a, b] k2 pt2) X.env = pure (some [x, y]) := by rfl)
    (hs : swapsWithSole [.Tuple [.Name x px, .Name y py] kt pt] (.Tuple [a, b] k2 pt2) pos.line X.env = pure false := by rfl) :
    DS X W (.Assign [.Tuple [.Name x px, .Name y py] kt pt] (.Tuple [a, b] k2 pt2) pos) (sPar i j w) := PS.imp (ps_par hc hN hi hj hij hx hy ha hw hs) fun E σ H h => by
  obtain ⟨F, cs, ρ, f, s, re, hw, pe⟩ := h
  refine ⟨F, cs, ρ, _, _, s, re, hw, fun H1 cs1 vs ds s1 r1 l1 h1 => ?_, pe.px re⟩
  obtain ⟨dx, dy, rfl, h⟩ := par_inv h1
  cases r1 with
  | cons r1 r2 =>
    cases r2 with
    | cons r2 r3 =>
      cases r3
      exact ⟨_, _, rfl, pe.nx H1 cs1 _ _ s1 (((re.mono s1.gr).set r1 i).set r2 j) h⟩
/-- name op= e of ints -/
def sAug (i : Nat) (o : DO2) (we : WE) : WS := fun f ρ cs => match ρ[i]? with
  | some (some x) => we ρ cs (fun y cs1 => o x y cs1 fun z cs2 => f.nx (ρ.set i (some z)) cs2) (fun x cs1 => f.ex x ρ cs1)
  | _ => False
theorem ds_aug {i : Nat} {x : Str} {op : Operator} {ti : TIp} {o : DO2} {pos' : Pos} (hN : X.N.Nodup) (hi : X.N[i]? = some x) (hx : Loc X.env.scope x) (he : DE X W e we) (ho : PIp X op ti) (adq : Adq X.K ti o)
    (hf : X.fn x = true ∨ X.env.scope.names.lookup x = some .local := by first | exact .inl rfl | exact .inr rfl | assumption) : DS X W (.AugAssign (.Name x pos') op e pos) (sAug i o we) :=
  PS.imp (ps_aug (i := i) hN hi hx he ho hf) fun E σ H h => by
    obtain ⟨F, cs, ρ, f, s, re, hw, pe⟩ := h
    unfold sAug at hw
    split at hw
    · rename_i d e
      obtain ⟨v, h1, h2⟩ := re.get e
      refine ⟨v, h1, F, cs, ρ, _, _, s, re, hw, fun H1 cs1 y dy s1 r1 q1 => ?_, pe.px re⟩
      refine adq F cs1 H1 v y d dy _ _ s1.self (h2.mono s1.gr) r1 q1 fun H2 cs2 z dz s2 r2 q2 => ?_
      exact pe.nx H2 cs2 _ _ (s2.from_ s1.gr) ((re.mono (s1.gr.trans s2.gr)).set r2 i) q2
    · exact hw.elim
theorem ds_augAdd {i : Nat} {x : Str} {pos' : Pos} (hN : X.N.Nodup) (hi : X.N[i]? = some x) (hx : Loc X.env.scope x) (he : DE X W e we)
    (hf : X.fn x = true ∨ X.env.scope.names.lookup x = some .local := by first | exact .inl rfl | exact .inr rfl | assumption) : DS X W (.AugAssign (.Name x pos') .Add e pos) (sAug i oAdd we) :=
  ds_aug hN hi hx he ip_add (fun F cs H x y dx dy P Q s rx ry ho pe => adq_I0 (K := X.K) (g := fun i j => .int (i + j)) (fun _ _ _ => .int _) F cs H x y dx dy P Q s rx ry ho pe) hf
/-! ### while -/
/-- I: by a number that falls -/
def sWhile (wt : WT) (wb : WS) : WS := fun f ρ cs => ∃ I : Nat → Env → Cs → Prop, (∃ m, I m ρ cs) ∧ ∀ m ρ cs, I m ρ cs →
  wt ρ cs (fun k cs1 => (k = true → wb { f with nx := fun ρ' cs' => ∃ m', m' < m ∧ I m' ρ' cs', ct := fun ρ' cs' => ∃ m', m' < m ∧ I m' ρ' cs', bk := f.nx } ρ cs1) ∧ (k = false → f.nx ρ cs1)) (fun x cs1 => f.ex x ρ cs1)
theorem ds_while {body : List Stmt} {wb : WS} (hp : PassesOwn (model X.prog X.w) X.A X.env X.xe) (hc : DT X W c wt) (hb : DSs X W body wb) : DS X W (.While c body [] pos) (sWhile wt wb) := PS.imp (ps_while hp hc hb) fun E σ H h => by
  obtain ⟨F, cs, ρ, f, s, re, ⟨I, ⟨m0, i0⟩, turn⟩, pe⟩ := h
  refine ⟨fun m σ' H' => ∃ cs' ρ', Sta X.K F (pur F cs H) cs' H' ∧ RepE X.K (pur F cs' H') σ' ρ' ∧ I m ρ' cs', ⟨m0, cs, ρ, s, re, i0⟩, fun m σ1 H1 ⟨cs1, ρ1, s1, re1, i1⟩ => ?_⟩
  refine ⟨F, cs1, ρ1, _, _, s1.self, re1, turn m ρ1 cs1 i1, fun H2 cs2 k s2 h2 => ?_, (pe.le s1.gr).px re1⟩
  cases k with
  | true =>
    refine iteT ⟨fun σ' H' => ∃ m', m' < m ∧ ∃ cs' ρ', Sta X.K F (pur F cs H) cs' H' ∧ RepE X.K (pur F cs' H') σ' ρ' ∧ I m' ρ' cs', fun σ' H' ⟨m', hm, z⟩ => ⟨m', hm, z⟩, ?_⟩
    have pe2 := pe.le (s1.gr.trans s2.gr)
    exact ⟨F, cs2, ρ1, _, s2.self, re1.mono s2.gr, h2.1 rfl, ⟨fun H3 cs3 σ3 ρ3 s3 re3 ⟨m', hm, z⟩ => ⟨m', hm, cs3, ρ3, s3.from_ (s1.gr.trans s2.gr), re3, z⟩, fun H3 cs3 σ3 ρ3 s3 re3 z => pe2.nx H3 cs3 σ3 ρ3 s3 re3 z,
      fun H3 cs3 σ3 ρ3 s3 re3 ⟨m', hm, z⟩ => ⟨m', hm, cs3, ρ3, s3.from_ (s1.gr.trans s2.gr), re3, z⟩, pe2.rt, pe2.ex⟩⟩
  | false => exact iteF (pe.nx H2 cs2 σ1 ρ1 (s2.from_ s1.gr) (re1.mono s2.gr) (h2.2 rfl))
/-! ### for -/
/-- J yields xs as long as the data stand -/
structure YI (K : PySem.W.Frag) (J : It) (G : Hp) (xs : List D) : Prop where
  go : ∀ i d, xs[i]? = some d → ∀ F cs H, Sta K F G cs H → J.go i H
  yld : ∀ i d, xs[i]? = some d → ∀ F cs H x H', Sta K F G cs H → J.yld i H x H' → Sta K F (pur F cs H) cs H' ∧ Rep K (pur F cs H') x d
  stop : ∀ F cs H, Sta K F G cs H → J.stop xs.length H
abbrev WI := Env → Cs → (List D → Cs → Prop) → XZ → Prop
def lI (K : PySem.W.Frag) (W : WX) (w : WI) : TI := fun σ H R => ∃ F cs ρ P Z, Sta K F (pur F cs H) cs H ∧ RepE K (pur F cs H) σ ρ ∧ w ρ cs P Z ∧ (∀ H' cs' J xs, Sta K F (pur F cs H) cs' H' → YI K J (pur F cs' H') xs → P xs cs' → R J H') ∧ PostX K F (pur F cs H) Z fun c d H' => W c d σ H'
abbrev DI (X : Cx) (W : WX) (tg it : Expr) (w : WI) : Prop := PI X tg it (lI X.K W w)
theorem PI.imp {X : Cx} {tg e : Expr} {t t' : TI} (h : PI X tg e t) (i : ∀ σ H Q, t' σ H Q → t σ H Q) : PI X tg e t' := ⟨fun pins s σ H Q I q => h.run pins s σ H Q I (i σ H Q q)⟩
def loopW (g : WG) (wb : WS) (f : Fin) : List D → Env → Cs → Prop
  | [], ρ, cs => f.nx ρ cs
  | d :: r, ρ, cs => g d ρ fun ρ1 => wb { f with nx := fun ρ' cs' => loopW g wb f r ρ' cs', ct := fun ρ' cs' => loopW g wb f r ρ' cs', bk := f.nx } ρ1 cs
def sFor (wi : WI) (g : WG) (wb : WS) : WS := fun f ρ cs => wi ρ cs (fun xs cs1 => loopW g wb f xs ρ cs1) (fun x cs1 => f.ex x ρ cs1)
theorem drop_cons {α : Type} {xs : List α} {i : Nat} {d : α} {r : List α} (h : xs.drop i = d :: r) : xs[i]? = some d ∧ xs.drop (i + 1) = r := by
  refine ⟨?_, ?_⟩
  · have e : (xs.drop i)[0]? = some d := by rw [h] <;> rfl
    rw [List.getElem?_drop] at e
    simpa using e
  · have e : (xs.drop i).drop 1 = r := by rw [h] <;> rfl
    rw [List.drop_drop] at e
    exact e
theorem ds_for {tg iter : Expr} {body : List Stmt} {wi : WI} {g : WG} {wb : WS} (hp : PassesOwn (model X.prog X.w) X.A X.env X.xe) (hc : X.calm = true) (hi : DI X W tg iter wi) (hg : DG X tg g) (hb : DSs X W body wb)
    (hs : ∀ x, foldedSetIterable iter X.env x = pure x := by intro _; rfl) : DS X W (.For tg iter body [] pos) (sFor wi g wb) := PS.imp (ps_for hp hc hi hg hb hs) fun E σ H h => by
  obtain ⟨F, cs, ρ, f, s, re, hw, pe⟩ := h
  refine ⟨F, cs, ρ, _, _, s, re, hw, fun H1 cs1 J xs s1 yi h1 => ?_, pe.px re⟩
  refine ⟨fun i m σ' H' => i ≤ xs.length ∧ m = xs.length - i ∧ ∃ cs' ρ', Sta X.K F (pur F cs1 H1) cs' H' ∧ RepE X.K (pur F cs' H') σ' ρ' ∧ loopW g wb f (xs.drop i) ρ' cs', ⟨xs.length, Nat.zero_le _, rfl, cs1, ρ, s1.self, re.mono s1.gr, h1⟩, ?_⟩
  rintro i m σ2 H2 ⟨hi, rfl, cs2, ρ2, s2, re2, h2⟩
  cases e : xs.drop i with
  | nil =>
    have hl : xs.length ≤ i := by
      have z := congrArg List.length e
      rw [List.length_drop] at z
      have z' : xs.length - i = 0 := z
      omega
    have hie : i = xs.length := by omega
    rw [e] at h2
    refine .inl ⟨?_, pe.nx H2 cs2 σ2 ρ2 (s2.from_ s1.gr) re2 h2⟩
    rw [hie]
    exact yi.stop F cs2 H2 s2
  | cons d r =>
    obtain ⟨e1, e2⟩ := drop_cons e
    have hlt : i < xs.length := (List.getElem?_eq_some_iff.mp e1).1
    rw [e] at h2
    refine .inr ⟨yi.go i d e1 F cs2 H2 s2, fun σ' H' => ∃ cs' ρ', Sta X.K F (pur F cs1 H1) cs' H' ∧ RepE X.K (pur F cs' H') σ' ρ' ∧ loopW g wb f r ρ' cs', ?_, ?_⟩
    · rintro σ' H' ⟨cs', ρ', s', re', h'⟩
      exact ⟨xs.length - (i + 1), by omega, by omega, rfl, cs', ρ', s', re', by rw [e2]; exact h'⟩
    · intro x H3 hy
      obtain ⟨s3, r3⟩ := yi.yld i d e1 F cs2 H2 x H3 s2 hy
      have g3 := s2.gr.trans s3.gr
      have pe3 := pe.le (s1.gr.trans g3)
      refine ⟨F, cs2, ρ2, d, _, s3.self, re2.mono s3.gr, r3, h2, fun σ4 ρ4 H4 s4 re4 h4 => ?_⟩
      have g4 := g3.trans s4.gr
      have pe4 := pe.le (s1.gr.trans g4)
      exact ⟨F, cs2, ρ4, _, s4.self, re4, h4, ⟨fun H5 cs5 σ5 ρ5 s5 re5 h5 => ⟨cs5, ρ5, s5.from_ g4, re5, h5⟩, fun H5 cs5 σ5 ρ5 s5 re5 h5 => pe4.nx H5 cs5 σ5 ρ5 s5 re5 h5,
        fun H5 cs5 σ5 ρ5 s5 re5 h5 => ⟨cs5, ρ5, s5.from_ g4, re5, h5⟩, pe4.rt, pe4.ex⟩⟩
/-! ### what is walked -/
def iSeq (we : WE) : WI := fun ρ cs P Z => we ρ cs (fun d cs1 => match d with
  | .lst xs => P xs cs1
  | _ => False) Z
def iTupD (we : WE) : WI := fun ρ cs P Z => we ρ cs (fun d cs1 => match d with
  | .tup xs => P xs cs1
  | _ => False) Z
theorem yi_list {G : Hp} {a : Addr} {xs : List V} {ds : List D} (h : SqL K G a xs) (r : RepL K G xs ds) : YI K (Itl K a) G ds where
  go := fun i d e F cs H s => by
    obtain ⟨v, e1, _⟩ := r.get e
    exact ⟨xs, v, ex_l (s.gr.trans pur_le) h, e1⟩
  yld := fun i d e F cs H x H' s hy => by
    obtain ⟨e1, e2⟩ := hy
    obtain ⟨v, e3, rv⟩ := r.get e
    have e4 := e2 xs (ex_l (s.gr.trans pur_le) h)
    rw [e3] at e4
    cases e4
    subst e1
    exact ⟨s.self, rv.mono s.gr⟩
  stop := fun F cs H s => ⟨xs, ex_l (s.gr.trans pur_le) h, by rw [r.length]; exact Nat.le_refl _⟩
theorem yi_tup {G : Hp} {a : Addr} {xs : List V} {ds : List D} (h : SqT K G a xs) (r : RepL K G xs ds) : YI K (Itt K a) G ds where
  go := fun i d e F cs H s => by
    obtain ⟨v, e1, _⟩ := r.get e
    exact ⟨xs, v, ex_t (s.gr.trans pur_le) h, e1⟩
  yld := fun i d e F cs H x H' s hy => by
    obtain ⟨e1, e2⟩ := hy
    obtain ⟨v, e3, rv⟩ := r.get e
    have e4 := e2 xs (ex_t (s.gr.trans pur_le) h)
    rw [e3] at e4
    cases e4
    subst e1
    exact ⟨s.self, rv.mono s.gr⟩
  stop := fun F cs H s => ⟨xs, ex_t (s.gr.trans pur_le) h, by rw [r.length]; exact Nat.le_refl _⟩
theorem di_list {tg : Expr} (h : DE X W e we) : DI X W tg e (iSeq we) := PI.imp (pi_list h) fun σ H R hq => by
  obtain ⟨F, cs, ρ, P, Z, s, re, hw, pe, px⟩ := hq
  refine ⟨F, cs, ρ, _, Z, s, re, hw, fun H1 cs1 v d s1 r1 h1 => ?_, px⟩
  cases d <;> try exact h1.elim
  cases r1 with
  | lst h r => exact ⟨_, rfl, ⟨_, ex_l pur_le h⟩, pe H1 cs1 _ _ s1 (yi_list h r) h1⟩
theorem di_tup {tg : Expr} (h : DE X W e we) : DI X W tg e (iTupD we) := PI.imp (pi_tup h) fun σ H R hq => by
  obtain ⟨F, cs, ρ, P, Z, s, re, hw, pe, px⟩ := hq
  refine ⟨F, cs, ρ, _, Z, s, re, hw, fun H1 cs1 v d s1 r1 h1 => ?_, px⟩
  cases d <;> try exact h1.elim
  cases r1 with
  | tup h r => exact ⟨_, rfl, ⟨_, ex_t pur_le h⟩, pe H1 cs1 _ _ s1 (yi_tup h r) h1⟩
def rngD (lo : Int) (n : Nat) : List D := (List.range n).map fun (i : Nat) => D.int (lo + (i : Int))
theorem yi_range (G : Hp) (lo : Int) (n : Nat) : YI K (Itr lo n) G (rngD lo n) where
  go := fun i d e F cs H s => by
    have z := (List.getElem?_eq_some_iff.mp e).1
    have z2 : i < n := by simpa [rngD] using z
    exact z2
  yld := fun i d e F cs H x H' s hy => by
    obtain ⟨e1, e2⟩ := hy
    subst e1 e2
    obtain ⟨hi, e3⟩ := List.getElem?_eq_some_iff.mp e
    simp [rngD] at e3
    rw [← e3]
    exact ⟨s.self, .int _⟩
  stop := fun F cs H s => by
    have z : n ≤ (rngD lo n).length := by simp [rngD]
    exact z
def iRg1 (w : WA) : WI := fun ρ cs P Z => w ρ cs (fun ds cs1 => match ds with
  | [.int j] => (-(2 ^ 62) ≤ j ∧ j < 2 ^ 62) ∧ P (rngD 0 j.toNat) cs1
  | _ => False) Z
def iRg2 (w : WA) : WI := fun ρ cs P Z => w ρ cs (fun ds cs1 => match ds with
  | [.int i, .int j] => (-(2 ^ 62) ≤ i ∧ i < 2 ^ 62 ∧ -(2 ^ 62) ≤ j ∧ j < 2 ^ 62) ∧ P (rngD i (j - i).toNat) cs1
  | _ => False) Z
theorem int1_inv {ds : List D} {g : Int → Prop} (h : (match ds with | [D.int j] => g j | _ => False)) : ∃ j, ds = [.int j] ∧ g j := by
  match ds, h with
  | [D.int j], h => exact ⟨j, rfl, h⟩
theorem int2_inv {ds : List D} {g : Int → Int → Prop} (h : (match ds with | [D.int i, D.int j] => g i j | _ => False)) : ∃ i j, ds = [.int i, .int j] ∧ g i j := by
  match ds, h with
  | [D.int i, D.int j], h => exact ⟨i, j, rfl, h⟩
theorem di_range1 {tg a : Expr} {w : WA} {p : Pos} (hg : Gl X "range") (hm : X.mg "range" = none) (ha : DA X W [a] w) (hs : starEach [a] X.env = [(false, eval a X.env)] := by rfl) : DI X W tg (.Call (.Name "range" p) [a] [] pos) (iRg1 w) :=
  PI.imp (pi_range1 hg hm ha hs) fun σ H R hq => by
    obtain ⟨F, cs, ρ, P, Z, s, re, hw, pe, px⟩ := hq
    refine ⟨F, cs, ρ, _, Z, s, re, hw, fun H1 cs1 vs ds s1 r1 l1 h1 => ?_, px⟩
    obtain ⟨j, rfl, ⟨h2, h3⟩, h⟩ := int1_inv h1
    cases r1 with
    | cons r1 r2 => cases r1; cases r2; exact ⟨j, rfl, h2, h3, pe H1 cs1 _ _ s1 (yi_range _ 0 _) h⟩
theorem di_range2 {tg a b : Expr} {w : WA} {p : Pos} (hg : Gl X "range") (hm : X.mg "range" = none) (ha : DA X W [a, b] w) (hs : starEach [a, b] X.env = [(false, eval a X.env), (false, eval b X.env)] := by rfl) (hs2 : starEach [b] X.env = [(false, eval b X.env)] := by rfl) :
    DI X W tg (.Call (.Name "range" p) [a, b] [] pos) (iRg2 w) := PI.imp (pi_range2 hg hm ha hs hs2) fun σ H R hq => by
    obtain ⟨F, cs, ρ, P, Z, s, re, hw, pe, px⟩ := hq
    refine ⟨F, cs, ρ, _, Z, s, re, hw, fun H1 cs1 vs ds s1 r1 l1 h1 => ?_, px⟩
    obtain ⟨i, j, rfl, h2, h⟩ := int2_inv h1
    cases r1 with
    | cons r1 r2 =>
      cases r2 with
      | cons r2 r3 => cases r1; cases r2; cases r3; exact ⟨i, j, rfl, h2, pe H1 cs1 _ _ s1 (yi_range _ i _) h⟩
end
end DL

namespace DL
open PySem PySem.Spec PyProof.Rows L2
/-! ### promises over data -/
abbrev DSp := List D → Cs → DP → XZ → Prop
def spL (K : PySem.W.Frag) (n : Nat) (sp : DSp) : Sp := fun vs H Q E => ∃ F cs ds P Z, Sta K F (pur F cs H) cs H ∧ RepL K (pur F cs H) vs ds ∧ ds.length = n ∧ sp ds cs P Z ∧ PostE K F (pur F cs H) P Q ∧ PostX K F (pur F cs H) Z E
theorem spL_len {K : PySem.W.Frag} {n : Nat} {sp : DSp} : ∀ vs H Q E, spL K n sp vs H Q E → vs.length = n := fun vs H Q E ⟨F, cs, ds, P, Z, s, r, l, _⟩ => r.length.trans l
section
variable {X : Cx} {W : WX} {K : PySem.W.Frag} {σ : L2.St} {H : Hp} {CX : CXT} {k n : Nat} {f : Addr} {fd : FuncData} {ps : List Str} {sp : DSp} {x : Str} {p pos : Pos} {e : Expr} {es : List Expr} {w : WA} {dvs : List V} {dds : List D} {ds : List Value}
def wCall (sp : DSp) (dds : List D) (w : WA) : WE := fun ρ cs P Z => w ρ cs (fun ds cs1 => sp (ds ++ dds) cs1 P Z) Z
theorem RepL.const {dvs : List V} {dds : List D} (h : ∀ G, RepL K G dvs dds) {G : Hp} {vs : List V} {ds : List D} (r : RepL K G vs ds) : RepL K G (vs ++ dvs) (ds ++ dds) := r.append (h G)
theorem call_ok {m : Nat} (hd : ∀ G, RepL K G dvs dds) (hn : m + dds.length = n) {Q : VK} : lE K W (wCall sp dds w) σ H Q → tCallSD (spL K n sp) dvs (L2.WE W) (lA K W m w) σ H Q := by
  rintro ⟨F, cs, ρ, P, Z, s, re, hw, pe, px⟩
  refine ⟨F, cs, ρ, _, Z, s, re, hw, fun H1 cs1 vs ds s1 r1 l1 h1 => ?_, px⟩
  exact ⟨F, cs1, _, P, Z, s1.self, RepL.const hd r1, by rw [List.length_append, l1]; exact hn, h1, pe.le s1.gr, px.le s1.gr⟩
/-- f(e, ..), the defaults dds behind -/
theorem d_call (F : FnOk X.prog X.w X.K X.mg X.base (L2.CX X.prog X.w) k f fd ps (spL X.K n sp)) (hr : Room k X.A) (hg : Gl X x) (hm : X.mg x = some (.ref f)) (hk : PySem.W.keepIn X.K (.ref f) = true) (hb : Binds X.K fd ps ds) (hd : Vals dvs ds) (hdd : ∀ G, RepL X.K G dvs dds) (tk : Takes X W)
    (ha : DA X W (e :: es) w) (hn : (e :: es).length + dds.length = n := by rfl) (hdb : (x == ("__debug__" : Str)) = false := by decide) (he : starEach (e :: es) X.env = (false, eval e X.env) :: starEach es X.env := by rfl) (hpl : (backTo pos (starEach es X.env)).any (·.1) = false := by rfl) :
    DE X W (.Call (.Name x p) (e :: es) [] pos) (wCall sp dds w) :=
  PE.imp (pe_callSD (E := L2.WE W) F hr hg hm hk hb hd (fun σ => passAt tk σ) ha hdb he hpl) fun _ _ _ h => call_ok hdd hn h
theorem d_callN (F : FnOk X.prog X.w X.K X.mg X.base (L2.CX X.prog X.w) k f fd ps (spL X.K n sp)) (hr : Room k X.A) (hg : Gl X x) (hm : X.mg x = some (.ref f)) (hk : PySem.W.keepIn X.K (.ref f) = true) (hb : Binds X.K fd ps []) (tk : Takes X W)
    (ha : DA X W (e :: es) w) (hn : (e :: es).length = n := by rfl) (hdb : (x == ("__debug__" : Str)) = false := by decide) (he : starEach (e :: es) X.env = (false, eval e X.env) :: starEach es X.env := by rfl) (hpl : (backTo pos (starEach es X.env)).any (·.1) = false := by rfl) :
    DE X W (.Call (.Name x p) (e :: es) [] pos) (wCall sp [] w) := d_call (dds := []) F hr hg hm hk hb .nil (fun _ => .nil) tk ha hn hdb he hpl
end
/-! ### a def keeps its promise -/
section
variable {P : Program} {w : World} {K : PySem.W.Frag} {mg : Str → Option Value} {base : Heap} {x qual : Str} {params : Arguments} {body : List Stmt} {scope : Scope} {dvs : List V} {kws : List (Str × V)} {f : Addr} {fd : FuncData}
def startD (N : List Str) (ds : List D) : Env := ds.map some ++ List.replicate (N.length - ds.length) none
/-- the end of a body -/
abbrev finD (P : DP) (Z : XZ) : Fin := { nx := fun _ cs => P .non cs, rt := P, ex := fun x _ cs => Z x cs }
abbrev cxD (P : Program) (w : World) (K : PySem.W.Frag) (mg : Str → Option Value) (base : Heap) (N : List Str) (qual : Str) (scope : Scope) (f : Addr) (cdv : Value) (A : Around) (outer : List PySem.Env) (s : Shared) (H : Hp) (E : XK) : Cx :=
  cxOf (L2.CX P w) P w K mg base N qual scope f cdv A outer s H E
theorem ok_def {N ps : List Str} {k : Nat} {sp : DSp} (F : FunD K x qual params body scope dvs kws f fd) (S : FnScope N ps scope) {u : WS}
    (hb : ∀ (cdv : Value) (A : Around) (outer : List PySem.Env) (s : Shared) (H : Hp) (E : XK), Room k (A.deeper (envOfC qual scope s.heap.objs.size f cdv)) → DSs (cxD P w K mg base N qual scope f cdv A outer s H E) (fun cls d _ H => E cls d H) body u)
    (hsp : ∀ ds cs Q Z, sp ds cs Q Z → ds.length = ps.length → u (finD Q Z) (startD N ds) cs) : FnOk P w K mg base (L2.CX P w) (k + 1) f fd ps (spL K ps.length sp) := by
  refine F.ok S spL_len fun cdv A outer s H vs Q E hr h => ?_
  obtain ⟨F, cs, ds, Pd, Z, st, r, l, hs, pe, px⟩ := h
  refine ⟨_, hb cdv A outer s H E hr, F, cs, startD N ds, finD Pd Z, st, ?_, hsp ds cs Pd Z hs l, ⟨fun H' cs' σ' ρ' s' _ h' => pe H' cs' .non .non s' .non h', fun _ _ _ _ _ _ h => h.elim, fun _ _ _ _ _ _ h => h.elim, pe, fun H' cs' σ' ρ' x d s' _ r' h' => px H' cs' x d s' r' h'⟩⟩
  unfold startD L2.start
  rw [r.length]
  exact RepE.start _ r
end
theorem takesD {P : Program} {w : World} {K : PySem.W.Frag} {mg : Str → Option Value} {base : Heap} {N : List Str} {qual : Str} {scope : Scope} {f : Addr} {cdv : Value} {A : Around} {outer : List PySem.Env} {s : Shared} {H : Hp} {E : XK} :
    Takes (cxD P w K mg base N qual scope f cdv A outer s H E) (fun cls d _ H => E cls d H) := takes_of rfl rfl rfl rfl
theorem passD {P : Program} {w : World} {K : PySem.W.Frag} {mg : Str → Option Value} {base : Heap} {N : List Str} {qual : Str} {scope : Scope} {f : Addr} {cdv : Value} {A : Around} {outer : List PySem.Env} {s : Shared} {H : Hp} {E : XK} :
    PassesOwn (model P w) (cxD P w K mg base N qual scope f cdv A outer s H E).A (cxD P w K mg base N qual scope f cdv A outer s H E).env (cxD P w K mg base N qual scope f cdv A outer s H E).xe :=
  passes_of (X := cxD P w K mg base N qual scope f cdv A outer s H E) rfl
section
variable {X : Cx} {W : WX} {K : PySem.W.Frag} {σ : L2.St} {H : Hp} {pos : Pos} {a b e : Expr} {wa wb : WE}
/-! ### lists that change: at p, by its address -/
abbrev DSet := D → D → D → Cs → (Cs → Prop) → Prop
def oSetL : DSet := fun o i v cs Q => match o, i with
  | .opq (.ref p), .int k => (match look p cs with
    | some (.lst ds) => (match ixN ds.length k with
      | some j => Q (put p (.lst (ds.set j v)) cs)
      | none => False)
    | _ => False)
  | _, _ => False
/-- o[i] = v -/
def sSetIx (wv wo wi : WE) (o : DSet) : WS := fun f ρ cs => wv ρ cs (fun v cs1 => wo ρ cs1 (fun x cs2 => wi ρ cs2 (fun i cs3 => o x i v cs3 fun cs4 => f.nx ρ cs4) (fun x cs1 => f.ex x ρ cs1)) (fun x cs1 => f.ex x ρ cs1)) (fun x cs1 => f.ex x ρ cs1)
theorem setL_inv {o i v : D} {cs : Cs} {Q : Cs → Prop} (h : oSetL o i v cs Q) : ∃ p k ds j, o = .opq (.ref p) ∧ i = .int k ∧ look p cs = some (.lst ds) ∧ ixN ds.length k = some j ∧ Q (put p (.lst (ds.set j v)) cs) := by
  unfold oSetL at h
  split at h
  · split at h
    · rename_i e
      split at h
      · rename_i e2
        exact ⟨_, _, _, _, rfl, rfl, e, e2, h⟩
      · exact h.elim
    · exact h.elim
  · exact h.elim
theorem lst_at {K : PySem.W.Frag} {F G0 H : Hp} {cs : Cs} {p : Addr} {ds : List D} (s : Sta K F G0 cs H) (h : look p cs = some (.lst ds)) : ∃ vs, H p = some (.lst vs) ∧ RepL K (pur F cs H) vs ds := by
  obtain ⟨o, e, q⟩ := s.look h
  cases o <;> first | exact ⟨_, e, q⟩ | exact q.elim
theorem ds_setix {o i v : Expr} {wo wi wv : WE} {p1 : Pos} (hv : DE X W v wv) (ho : DE X W o wo) (hi : DE X W i wi)
    (ha : ∀ u, assign (.Subscript o i p1) X.env u = (do
      let ov ← holding [u] (eval o X.env)
      let iv ← holding [u, ov] (eval i X.env)
      standAt p1
      holding [u, ov, iv] (setItem ov iv u)
      release [u, ov, iv] []) := by intro _; rfl)
    (hs : swapsWithSole [.Subscript o i p1] v pos.line X.env = pure false := by rfl) (hw : swappedStores [.Subscript o i p1] v X.env = pure none := by rfl) (h1 : (assignEach [.Subscript o i p1] X.env).map (·.2) = [assign (.Subscript o i p1) X.env] := by rfl) :
    DS X W (.Assign [.Subscript o i p1] v pos) (sSetIx wv wo wi oSetL) := PS.imp (ps_asg hv (pg_sub ho hi set_list ha) hs hw h1) fun E σ H h => by
  obtain ⟨F, cs, ρ, f, s, re, hw, pe⟩ := h
  refine ⟨F, cs, ρ, _, _, s, re, hw, fun H1 cs1 y dy s1 r1 h1 => ?_, pe.px re⟩
  refine ⟨F, cs1, ρ, _, _, s1.self, re.mono s1.gr, h1, fun H2 cs2 x dx s2 r2 h2 => ?_, (pe.le s1.gr).px (re.mono s1.gr)⟩
  refine ⟨F, cs2, ρ, _, _, s2.self, re.mono (s1.gr.trans s2.gr), h2, fun H3 cs3 z dz s3 r3 h3 => ?_, (pe.le (s1.gr.trans s2.gr)).px (re.mono (s1.gr.trans s2.gr))⟩
  obtain ⟨p, k, ds, j, rfl, rfl, hl, hj, h⟩ := setL_inv h3
  obtain ⟨vs, e, rl⟩ := lst_at s3 hl
  cases r2
  cases r3
  have s4 := s3.put hl (m' := .lst (ds.set j dy)) (o' := .lst (vs.set j y)) (rl.set (r1.mono (s2.gr.trans s3.gr)) j)
  refine ⟨p, vs, k, j, rfl, rfl, e, by rw [rl.length]; exact hj, ?_⟩
  have g := (s1.gr.trans s2.gr).trans s3.gr
  exact pe.nx _ _ σ ρ (s4.from_ g) (re.mono (g.trans s4.gr)) h
/-- the i-th item of the changing list at p; len of it -/
def oIxM : DO2 := fun x y cs P => match x, y with
  | .opq (.ref p), .int i => (match look p cs with
    | some (.lst ds) => (match atD ds i with
      | some d => P d cs
      | none => False)
    | _ => False)
  | _, _ => False
theorem adq_ixM : Adq K (rIx K) oIxM := fun F cs H x y dx dy P Q s rx ry ho pe => by
  unfold oIxM at ho
  split at ho
  · split at ho
    · rename_i e
      split at ho
      · rename_i d e2
        cases rx
        cases ry
        obtain ⟨vs, e3, rl⟩ := lst_at s e
        obtain ⟨v, e4, rv⟩ := rl.atI e2
        exact .inl ⟨_, _, _, v, rfl, rfl, SqL.of e3, e4, pe H cs _ _ s rv ho⟩
      · exact ho.elim
    · exact ho.elim
  · exact ho.elim
theorem d_ixM (ha : DE X W a wa) (hb : DE X W b wb) (hs : PlainIx b := by intro _ _; rfl) : DE X W (.Subscript a b pos) (wOp oIxM wa wb) := d_ix ix_seq adq_ixM ha hb hs
/-- methods of lists that change -/
abbrev DMt := D → List D → Cs → DP → Prop
def wMt (o : DMt) (wo : WE) (w : WA) : WE := fun ρ cs P Z => wo ρ cs (fun x cs1 => w ρ cs1 (fun ds cs2 => o x ds cs2 P) Z) Z
def oAppend : DMt := fun x ds cs P => match x, ds with
  | .opq (.ref p), [d] => (match look p cs with
    | some (.lst xs) => xs.length < 100000 ∧ P .non (put p (.lst (xs ++ [d])) cs)
    | _ => False)
  | _, _ => False
theorem append_inv {x : D} {ds : List D} {cs : Cs} {P : DP} (h : oAppend x ds cs P) : ∃ p d xs, x = .opq (.ref p) ∧ ds = [d] ∧ look p cs = some (.lst xs) ∧ xs.length < 100000 ∧ P .non (put p (.lst (xs ++ [d])) cs) := by
  unfold oAppend at h
  split at h
  · split at h
    · rename_i e
      exact ⟨_, _, _, rfl, rfl, e, h.1, h.2⟩
    · exact h.elim
  · exact h.elim
end
end DL

namespace DL
open PySem L2
/-! ### parts as rationals -/
def dR (r : Rat) : D := .tup [.int r.num, .int (r.den : Int)]
theorem dR_inj {r s : Rat} (h : dR r = dR s) : r = s := by
  unfold dR at h
  simp at h
  exact Rat.ext h.1 (Int.ofNat_inj.mp h.2)
theorem eqD_int (i j : Int) : eqD (.int i) (.int j) = decide (i = j) := by
  unfold eqD
  rw [Bool.beq_eq_decide_eq]
theorem eqD_dR (r s : Rat) : eqD (dR r) (dR s) = decide (r = s) := by
  unfold dR
  simp only [eqD, eqL, Bool.and_true]
  rw [Bool.beq_eq_decide_eq, Bool.beq_eq_decide_eq, ← Bool.decide_and]
  have e : (r.num = s.num ∧ (r.den : Int) = (s.den : Int)) ↔ r = s := ⟨fun h => Rat.ext h.1 (Int.ofNat_inj.mp h.2), fun h => by rw [h]; exact ⟨rfl, rfl⟩⟩
  exact decide_eq_decide.mpr e
/-- both numbers below 2 ^ n -/
def Sz (n : Nat) (r : Rat) : Prop := r.num.natAbs < 2 ^ n ∧ r.den < 2 ^ n
theorem Sz.mono {n m : Nat} {r : Rat} (h : Sz n r) (l : n ≤ m) : Sz m r :=
  ⟨Nat.lt_of_lt_of_le h.1 (Nat.pow_le_pow_right (by decide) l), Nat.lt_of_lt_of_le h.2 (Nat.pow_le_pow_right (by decide) l)⟩
theorem mulOk_of {i j : Int} {a b : Nat} (ha : i.natAbs < 2 ^ a) (hb : j.natAbs < 2 ^ b) (h : a + b ≤ 900000) : IntMulOk i j := by
  have ha' : i.natAbs < 2 ^ (a + 1) := Nat.lt_of_lt_of_le ha (Nat.pow_le_pow_right (by decide) (Nat.le_succ _))
  have hb' : j.natAbs < 2 ^ (b + 1) := Nat.lt_of_lt_of_le hb (Nat.pow_le_pow_right (by decide) (Nat.le_succ _))
  exact CMulW.ok (wide_mul ha' hb' (Nat.succ_pos _) (Nat.succ_pos _) (by omega))
theorem mulOk_r {i j : Int} (h : j.natAbs < 2 ^ 64) : IntMulOk i j := CMul.ok (Or.inr (by omega))
theorem mulOk_l {i j : Int} (h : i.natAbs < 2 ^ 64) : IntMulOk i j := CMul.ok (Or.inl (by omega))
theorem gcd_pos {a b : Nat} (h : 0 < b) : 0 < Nat.gcd a b := Nat.gcd_pos_of_pos_right a h
/-- what part reckons -/
theorem part_pos (a b : Int) (h : 0 < b) : a / (Nat.gcd a.natAbs b.natAbs : Nat) = (Rat.divInt a b).num ∧ b / (Nat.gcd a.natAbs b.natAbs : Nat) = ((Rat.divInt a b).den : Int) := by
  have e : (Int.gcd b a) = Nat.gcd a.natAbs b.natAbs := by rw [Int.gcd, Nat.gcd_comm]
  constructor
  · rw [Rat.num_divInt, Int.sign_eq_one_of_pos h, Int.one_mul, e]
  · rw [Rat.den_divInt, if_neg (by omega), e]
    have : (b.natAbs : Int) = b := by omega
    rw [Int.natCast_ediv, this]
theorem part_neg (a b : Int) : Rat.divInt (-a) (-b) = Rat.divInt a b := Rat.neg_divInt_neg a b
theorem divInt_add (x y : Rat) : Rat.divInt (x.num * y.den + y.num * x.den) ((x.den : Int) * y.den) = x + y := by
  rw [Rat.add_def', ← Int.natCast_mul, Rat.divInt_ofNat]
theorem divInt_sub (x y : Rat) : Rat.divInt (x.num * y.den - y.num * x.den) ((x.den : Int) * y.den) = x - y := by
  rw [Rat.sub_def', ← Int.natCast_mul, Rat.divInt_ofNat]
theorem divInt_mul (x y : Rat) : Rat.divInt (x.num * y.num) ((x.den : Int) * y.den) = x * y := by
  rw [Rat.mul_def', ← Int.natCast_mul, Rat.divInt_ofNat]
theorem divInt_div (x y : Rat) : Rat.divInt (x.num * y.den) ((x.den : Int) * y.num) = x / y := by
  rw [Rat.div_def, Rat.inv_def, ← Rat.divInt_mul_divInt, Rat.num_divInt_den]
theorem den_ne (x : Rat) : (x.den : Int) ≠ 0 := by have := x.den_nz; omega
theorem den_pos (x : Rat) : (0 : Int) < x.den := by have := x.den_nz; omega
theorem gcd_ok {a b : Nat} (hb : 0 < b) (h : b < 2 ^ 9000) : (0 : Int) < (Nat.gcd a b : Int) ∧ (Nat.gcd a b : Int).natAbs.log2 < 9000 := by
  refine ⟨by have := gcd_pos (a := a) hb; omega, ?_⟩
  refine PySem.Flt.log2_lt_of (by decide) ?_
  rw [Int.natAbs_natCast]
  exact Nat.lt_of_le_of_lt (Nat.gcd_le_right _ hb) h
theorem abs_nat (a : Int) : (if a < 0 then -a else a) = (a.natAbs : Int) := by
  split <;> omega
/-! sizes -/

theorem Sz.divInt {a b : Int} {n m : Nat} (h0 : b ≠ 0) (ha : a.natAbs < 2 ^ n) (hb : b.natAbs < 2 ^ m) (hn : n ≤ m) : Sz m (Rat.divInt a b) := by
  have ha' : a.natAbs < 2 ^ m := Nat.lt_of_lt_of_le ha (Nat.pow_le_pow_right (by decide) hn)
  constructor
  · rw [Rat.num_divInt]
    refine Nat.lt_of_le_of_lt ?_ ha'
    refine Nat.le_trans (Int.natAbs_ediv_le_natAbs _ _) ?_
    rw [Int.natAbs_mul]
    have : b.sign.natAbs ≤ 1 := by
      rcases Int.lt_trichotomy b 0 with h | h | h
      · rw [Int.sign_eq_neg_one_of_neg h]; decide
      · exact absurd h h0
      · rw [Int.sign_eq_one_of_pos h]; decide
    exact Nat.le_trans (Nat.mul_le_mul_right _ this) (by omega)
  · rw [Rat.den_divInt, if_neg h0]
    exact Nat.lt_of_le_of_lt (Nat.div_le_self _ _) hb
theorem lt_mul2 {a b n m : Nat} (ha : a < 2 ^ n) (hb : b < 2 ^ m) : a * b < 2 ^ (n + m) := by
  rw [Nat.pow_add]
  exact Nat.mul_lt_mul'' ha hb
theorem lt_add2 {a b n : Nat} (ha : a < 2 ^ n) (hb : b < 2 ^ n) : a + b < 2 ^ (n + 1) := by
  rw [Nat.pow_succ]; omega
theorem Sz.add {n m : Nat} {x y : Rat} (hx : Sz n x) (hy : Sz m y) : Sz (n + m + 1) (x + y) := by
  rw [← divInt_add]
  refine Sz.divInt (n := n + m + 1) (Int.mul_ne_zero (den_ne x) (den_ne y)) ?_ ?_ (Nat.le_refl _)
  · refine Nat.lt_of_le_of_lt (Int.natAbs_add_le _ _) ?_
    refine lt_add2 ?_ ?_
    · rw [Int.natAbs_mul]; exact lt_mul2 hx.1 hy.2
    · rw [Int.natAbs_mul, Nat.add_comm]; exact lt_mul2 hy.1 hx.2
  · rw [Int.natAbs_mul]
    exact Nat.lt_of_lt_of_le (lt_mul2 hx.2 hy.2) (Nat.pow_le_pow_right (by decide) (Nat.le_succ _))
theorem Sz.neg {n : Nat} {x : Rat} (hx : Sz n x) : Sz n (-x) := ⟨by rw [Rat.neg_num, Int.natAbs_neg]; exact hx.1, by rw [Rat.neg_den]; exact hx.2⟩
theorem Sz.sub {n m : Nat} {x y : Rat} (hx : Sz n x) (hy : Sz m y) : Sz (n + m + 1) (x - y) := by
  rw [Rat.sub_eq_add_neg]; exact hx.add hy.neg
theorem Sz.mul {n m : Nat} {x y : Rat} (hx : Sz n x) (hy : Sz m y) : Sz (n + m) (x * y) := by
  rw [← divInt_mul]
  refine Sz.divInt (n := n + m) (Int.mul_ne_zero (den_ne x) (den_ne y)) ?_ ?_ (Nat.le_refl _)
  · rw [Int.natAbs_mul]; exact lt_mul2 hx.1 hy.1
  · rw [Int.natAbs_mul]; exact lt_mul2 hx.2 hy.2
theorem Sz.div {n m : Nat} {x y : Rat} (hx : Sz n x) (hy : Sz m y) (h : y ≠ 0) : Sz (n + m) (x / y) := by
  rw [← divInt_div]
  refine Sz.divInt (n := n + m) (Int.mul_ne_zero (den_ne x) (fun z => h (Rat.num_eq_zero.mp z))) ?_ ?_ (Nat.le_refl _)
  · rw [Int.natAbs_mul]; exact lt_mul2 hx.1 hy.2
  · rw [Int.natAbs_mul]; exact lt_mul2 hx.2 hy.1
theorem Sz.nn {n m : Nat} {x y : Rat} (hx : Sz n x) (hy : Sz m y) (h : n + m ≤ 900000 := by decide) : IntMulOk x.num y.num := mulOk_of hx.1 hy.1 h
theorem Sz.nd {n m : Nat} {x y : Rat} (hx : Sz n x) (hy : Sz m y) (h : n + m ≤ 900000 := by decide) : IntMulOk x.num (y.den : Int) := mulOk_of hx.1 (by rw [Int.natAbs_natCast]; exact hy.2) h
theorem Sz.dn {n m : Nat} {x y : Rat} (hx : Sz n x) (hy : Sz m y) (h : n + m ≤ 900000 := by decide) : IntMulOk (x.den : Int) y.num := mulOk_of (by rw [Int.natAbs_natCast]; exact hx.2) hy.1 h
theorem Sz.dd {n m : Nat} {x y : Rat} (hx : Sz n x) (hy : Sz m y) (h : n + m ≤ 900000 := by decide) : IntMulOk (x.den : Int) (y.den : Int) := mulOk_of (by rw [Int.natAbs_natCast]; exact hx.2) (by rw [Int.natAbs_natCast]; exact hy.2) h
theorem dd_ok {n m : Nat} {x y : Rat} (hx : Sz n x) (hy : Sz m y) (h : n + m ≤ 9000) : ((x.den : Int) * (y.den : Int)).natAbs < 2 ^ 9000 := by
  rw [Int.natAbs_mul]
  exact Nat.lt_of_lt_of_le (lt_mul2 hx.2 hy.2) (Nat.pow_le_pow_right (by decide) h)
theorem dn_ok {n m : Nat} {x y : Rat} (hx : Sz n x) (hy : Sz m y) (h : n + m ≤ 9000) : ((x.den : Int) * y.num).natAbs < 2 ^ 9000 := by
  rw [Int.natAbs_mul]
  exact Nat.lt_of_lt_of_le (lt_mul2 hx.2 hy.1) (Nat.pow_le_pow_right (by decide) h)
/-- the greater of x by y and y by x -/
def shapeR (x y : Rat) : Rat := if x < y then y / x else x / y
theorem Sz.shape {n m : Nat} {x y : Rat} (hx : Sz n x) (hy : Sz m y) (x0 : 0 < x) (y0 : 0 < y) : Sz (n + m) (shapeR x y) := by
  unfold shapeR
  split
  · rw [Nat.add_comm]; exact hy.div hx (Rat.ne_of_gt x0)
  · exact hx.div hy (Rat.ne_of_gt y0)
theorem shapeR_comm {x y : Rat} (x0 : 0 < x) (y0 : 0 < y) : shapeR x y = shapeR y x := by
  unfold shapeR
  by_cases h : x < y
  · rw [if_pos h, if_neg (Rat.not_lt.mpr (Rat.le_of_lt h))]
  · by_cases h2 : y < x
    · rw [if_neg h, if_pos h2]
    · have e : x = y := Rat.le_antisymm (Rat.not_lt.mp h2) (Rat.not_lt.mp h)
      rw [e]
theorem div_self' {x : Rat} (h : x ≠ 0) : x / x = 1 := by rw [Rat.div_def, Rat.mul_inv_cancel x h]
theorem shapeR_one {x y : Rat} (x0 : 0 < x) (y0 : 0 < y) : ¬ shapeR x y < 1 := by
  unfold shapeR
  split
  · rename_i h
    rw [Rat.div_lt_iff x0, Rat.one_mul]
    exact Rat.not_lt.mpr (Rat.le_of_lt h)
  · rename_i h
    rw [Rat.div_lt_iff y0, Rat.one_mul]
    exact h
def liesR (l t w h x y : Rat) : Bool := !decide (x < l) && (decide (x < l + w) && (!decide (y < t) && decide (y < t + h)))
theorem lt_addR {a b : Rat} (h : 0 < b) : a < a + b := by
  have := Rat.add_lt_add_left (c := a) |>.mpr h
  rwa [Rat.add_zero] at this
theorem liesR_lt {l t w h : Rat} (pw : 0 < w) (ph : 0 < h) : liesR l t w h l t = true := by
  unfold liesR
  rw [decide_eq_false (Rat.lt_irrefl (a := l)), decide_eq_false (Rat.lt_irrefl (a := t)), decide_eq_true (lt_addR pw), decide_eq_true (lt_addR ph)]; rfl
theorem liesR_rt {l t w h : Rat} : liesR l t w h (l + w) t = false := by
  unfold liesR
  rw [decide_eq_false (Rat.lt_irrefl (a := l + w)), Bool.false_and, Bool.and_false]
end DL

namespace DL
open PySem PySem.Spec PyProof.Rows L2
section
variable {X : Cx} {W : WX} {K : PySem.W.Frag} {σ : L2.St} {H : Hp} {pos : Pos} {a b e : Expr} {es : List Expr} {wa wb we : DL.WE} {w : WA} {name : Str} {apos cpos : Pos} {T id : String}
/-! ### methods of lists -/
def AdqM (K : PySem.W.Frag) (T : String) (r : V → List V → Hp → VK → Prop) (o : DMt) : Prop := ∀ F cs H x xs dx ds P Q, Sta K F (pur F cs H) cs H → Rep K (pur F cs H) x dx → RepL K (pur F cs H) xs ds → o dx ds cs P → PostE K F (pur F cs H) P Q → r x xs H Q
/-- the receiver is of the type T wherever it stands -/
def IsTy (K : PySem.W.Frag) (T : String) (o : DMt) (g : D → Cs → Prop) : Prop := ∀ F cs H x dx, Sta K F (pur F cs H) cs H → Rep K (pur F cs H) x dx → g dx cs → tyV K T x H
def isL (d : D) (cs : Cs) : Prop := match d with
  | .lst _ => True
  | .opq (.ref p) => (match look p cs with
    | some (.lst _) => True
    | _ => False)
  | _ => False
theorem isL_ty {F : Hp} {cs : Cs} {x : V} {dx : D} (s : Sta K F (pur F cs H) cs H) (r : Rep K (pur F cs H) x dx) (h : isL dx cs) : tyV K "list" x H := by
  unfold isL at h
  split at h
  · cases r with
    | lst h r => exact .inl ⟨rfl, _, ex_l pur_le h⟩
  · split at h
    · rename_i e
      obtain ⟨vs, e2, _⟩ := lst_at s e
      cases r
      exact .inl ⟨rfl, _, SqL.of e2⟩
    · exact h.elim
  · exact h.elim
def wMtL (o : DMt) (wo : DL.WE) (w : WA) : DL.WE := fun ρ cs P Z => wo ρ cs (fun x cs1 => isL x cs1 ∧ w ρ cs1 (fun ds cs2 => o x ds cs2 P) Z) Z
theorem d_bmL {r : V → List V → Hp → VK → Prop} {o : DMt} (slot : Slot "list" name id) (hty : typeOf (.builtin id) = pure (.type "method_descriptor")) (hm : MtR X id r) (adq : AdqM X.K "list" r o) (ho : DE X W a wa) (ha : DA X W (e :: es) w)
    (hbase : attributeBase a name X.env (eval a X.env) = eval a X.env := by rfl)
    (hfew : ((backTo cpos (starEach (e :: es) X.env)).all (fun x => !x.1) && (backToKw cpos (keywordEach [] X.env)).all (fun x => x.1.isSome)
      && decide ((e :: es).length + ([] : List Keyword).length + (if ([] : List Keyword).isEmpty then 0 else 1) < 30)) = true := by rfl)
    (hline : (apos.endLine == cpos.line) = true := by rfl) (hs : starEach (e :: es) X.env = (false, eval e X.env) :: starEach es X.env := by rfl) (hplain : (backTo cpos (starEach es X.env)).any (·.1) = false := by rfl) :
    DE X W (.Call (.Attribute a name apos) (e :: es) [] cpos) (wMtL o wa w) := PE.imp (pe_bm PySem.F.plainAttrs_list slot hty hm ho ha hbase hfew hline hs hplain) fun σ H Q h => by
  obtain ⟨F, cs, ρ, P, Z, s, re, hw, pe, px⟩ := h
  refine ⟨F, cs, ρ, _, Z, s, re, hw, fun H1 cs1 x dx s1 r1 h1 => ⟨isL_ty s1.self r1 h1.1, ?_⟩, px⟩
  refine ⟨F, cs1, ρ, _, Z, s1.self, re.mono s1.gr, h1.2, fun H2 cs2 vs ds s2 r2 l2 h2 => ?_, px.le s1.gr⟩
  exact adq F cs2 H2 x vs dx ds P Q s2.self (r1.mono s2.gr) r2 h2 (pe.le (s1.gr.trans s2.gr))
def wMtL0 (o : DMt) (wo : DL.WE) : DL.WE := fun ρ cs P Z => wo ρ cs (fun x cs1 => isL x cs1 ∧ o x [] cs1 P) Z
theorem d_bmL0 {r : V → List V → Hp → VK → Prop} {o : DMt} (slot : Slot "list" name id) (hty : typeOf (.builtin id) = pure (.type "method_descriptor")) (hm : MtR X id r) (adq : AdqM X.K "list" r o) (ho : DE X W a wa)
    (hbase : attributeBase a name X.env (eval a X.env) = eval a X.env := by rfl) (hline : (apos.endLine == cpos.line) = true := by rfl) :
    DE X W (.Call (.Attribute a name apos) [] [] cpos) (wMtL0 o wa) := PE.imp (pe_bm0 PySem.F.plainAttrs_list slot hty hm ho hbase hline) fun σ H Q h => by
  obtain ⟨F, cs, ρ, P, Z, s, re, hw, pe, px⟩ := h
  exact ⟨F, cs, ρ, _, Z, s, re, hw, fun H1 cs1 x dx s1 r1 h1 => ⟨isL_ty s1.self r1 h1.1, adq F cs1 H1 x [] dx [] P Q s1.self r1 .nil h1.2 (pe.le s1.gr)⟩, px⟩
/-! append -/
theorem adq_append : AdqM K "list" rAppend oAppend := fun F cs H x xs dx ds P Q s rx rl ho pe => by
  obtain ⟨p, d, ys, rfl, rfl, hl, hz, h⟩ := append_inv ho
  obtain ⟨vs, e, rv⟩ := lst_at s hl
  cases rx
  cases rl with
  | cons r1 r2 =>
    cases r2
    have s4 := s.put hl (m' := .lst (ys ++ [d])) (o' := .lst (vs ++ [_])) (rv.append (.cons r1 .nil))
    exact ⟨p, vs, _, rfl, rfl, e, by rw [rv.length]; exact Nat.lt_of_lt_of_le hz (by decide), pe _ _ _ _ s4 .non h⟩
theorem d_append (ho : DE X W a wa) (ha : DA X W [e] w) (hbase : attributeBase a "append" X.env (eval a X.env) = eval a X.env := by rfl)
    (hfew : ((backTo cpos (starEach [e] X.env)).all (fun x => !x.1) && (backToKw cpos (keywordEach [] X.env)).all (fun x => x.1.isSome)
      && decide ([e].length + ([] : List Keyword).length + (if ([] : List Keyword).isEmpty then 0 else 1) < 30)) = true := by rfl)
    (hline : (apos.endLine == cpos.line) = true := by rfl) (hs : starEach [e] X.env = (false, eval e X.env) :: starEach [] X.env := by rfl) (hplain : (backTo cpos (starEach [] X.env)).any (·.1) = false := by rfl) :
    DE X W (.Call (.Attribute a "append" apos) [e] [] cpos) (wMtL oAppend wa w) := d_bmL PySem.F.slot_list_append PySem.F.type_list_append mt_append adq_append ho ha hbase hfew hline hs hplain
/-! pop() -/
def oPop : DMt := fun x ds cs P => match x, ds with
  | .opq (.ref p), [] => (match look p cs with
    | some (.lst xs) => (match xs[xs.length - 1]? with
      | some d => P d (put p (.lst xs.dropLast) cs)
      | none => False)
    | _ => False)
  | _, _ => False
theorem adq_pop : AdqM K "list" rPop oPop := fun F cs H x xs dx ds P Q s rx rl ho pe => by
  unfold oPop at ho
  split at ho
  · split at ho
    · rename_i hl
      split at ho
      · rename_i d e1
        obtain ⟨vs, e, rv⟩ := lst_at s hl
        cases rx
        cases rl
        obtain ⟨v, e2, r2⟩ := rv.get e1
        have s4 := s.put hl (m' := .lst (List.dropLast _)) (o' := .lst (vs.dropLast)) rv.dropLast
        exact ⟨_, vs, v, rfl, rfl, e, by rw [rv.length]; exact e2, pe _ _ _ _ s4 (r2.mono s4.gr) ho⟩
      · exact ho.elim
    · exact ho.elim
  · exact ho.elim
theorem d_pop (ho : DE X W a wa) (hbase : attributeBase a "pop" X.env (eval a X.env) = eval a X.env := by rfl) (hline : (apos.endLine == cpos.line) = true := by rfl) :
    DE X W (.Call (.Attribute a "pop" apos) [] [] cpos) (wMtL0 oPop wa) := d_bmL0 PySem.F.slot_list_pop PySem.F.type_list_pop mt_pop adq_pop ho hbase hline
/-! count over data -/
def cntD (xs : List D) (d : D) : Nat := xs.countP fun y => eqD y d
def rCntD (K : PySem.W.Frag) : V → List V → Hp → VK → Prop := fun x xs H Q => ∃ p ys y ds d, x = .ref p ∧ xs = [y] ∧ SqL K H p ys ∧ DpAll K H ys ds ∧ Dp K H y d ∧ PyData.plainAll ds = true ∧ d.plain = true ∧ d.depth ≤ 60 ∧ Q (.int ((ds.countP fun z => PyData.eqv z d : Nat) : Int)) H
theorem mt_countD (hu : X.A.units + 64 < cLine) : MtR X "list.count" (rCntD X.K) := by
  intro pins s σ H x xs v us Q I rx rxs h
  obtain ⟨p, ys, y, ds, d, rfl, rfl, hs, hds, hd, p1, p2, p3, q⟩ := h
  cases rx
  obtain ⟨u, rfl, ru⟩ := rxs.one
  obtain ⟨its, rv, ⟨o, n, ho, hc, hdn, hdd⟩, hlen⟩ := I.list hs
  obtain ⟨as, r1⟩ := Dp.readsAll I ds ys its hds rv
  obtain ⟨bs, r2⟩ := Dp.reads I d y u hd ru
  refine PySem.SeqAt.count_list_data (vs := its.toArray) ⟨o, ho, hc, n, hdd⟩ (by simpa using r1) r2 p1 p2 ?_ ⟨.int _, H, I.tok _, ⟨_, rfl⟩, q⟩
  have h2 : min (PyData.depthAll ds) d.depth ≤ d.depth := Nat.min_le_right _ _
  omega
def oCount : DMt := fun x ds cs P => match x, ds with
  | .lst xs, [d] => plL 20 xs = true ∧ plD 20 d = true ∧ P (.int (cntD xs d : Int)) cs
  | _, _ => False
theorem count_eqv (d : D) (hd : plD 20 d = true) : ∀ xs : List D, plL 20 xs = true → (pyL xs).countP (fun z => PyData.eqv z (pyD d)) = cntD xs d
  | [], _ => by simp [pyL, cntD]
  | x :: xs, h => by
    simp only [plL, Bool.and_eq_true] at h
    have ih := count_eqv d hd xs h.2
    simp only [pyL, cntD, List.countP_cons] at ih ⊢
    rw [ih, eqD_eqv x d 20 20 h.1 hd]
theorem adq_count : AdqM K "list" (rCntD K) oCount := fun F cs H x xs dx ds P Q s rx rl ho pe => by
  unfold oCount at ho
  split at ho
  · obtain ⟨p1, p2, h⟩ := ho
    cases rx with
    | lst h1 r1 =>
      cases rl with
      | cons r2 r3 =>
        cases r3
        have a2 := plD_plain _ 20 p2
        refine ⟨_, _, _, _, _, rfl, rfl, ex_l pur_le h1, RepL.dp pur_le 20 r1 p1, Rep.dp pur_le 20 r2 p2, (plL_plain _ 20 p1).1, a2.1, Nat.le_trans a2.2 (by decide), ?_⟩
        rw [count_eqv _ p2 _ p1]
        exact pe H cs _ _ s (.int _) h
  · exact ho.elim
theorem d_count (hu : X.A.units + 64 < cLine) (ho : DE X W a wa) (ha : DA X W [e] w) (hbase : attributeBase a "count" X.env (eval a X.env) = eval a X.env := by rfl)
    (hfew : ((backTo cpos (starEach [e] X.env)).all (fun x => !x.1) && (backToKw cpos (keywordEach [] X.env)).all (fun x => x.1.isSome)
      && decide ([e].length + ([] : List Keyword).length + (if ([] : List Keyword).isEmpty then 0 else 1) < 30)) = true := by rfl)
    (hline : (apos.endLine == cpos.line) = true := by rfl) (hs : starEach [e] X.env = (false, eval e X.env) :: starEach [] X.env := by rfl) (hplain : (backTo cpos (starEach [] X.env)).any (·.1) = false := by rfl) :
    DE X W (.Call (.Attribute a "count" apos) [e] [] cpos) (wMtL oCount wa w) := d_bmL PySem.F.slot_list_count PySem.F.type_list_count (mt_countD hu) adq_count ho ha hbase hfew hline hs hplain
end
end DL

/-! DLG: how a reading over data is gone through, head by head. -/
namespace DL
open PySem PySem.Spec PyProof.Rows L2
section
variable {ρ : DL.Env} {cs : Cs} {P : DP} {Z : XZ} {wa wb we wo wi wv : DL.WE} {w : WA} {ta tb : WT} {u v : WS} {f : Fin} {Q : Bool → Cs → Prop} {d x y : D} {i j : Nat} {PA : List D → Cs → Prop}
section
variable {nx bk ct : DL.Env → Cs → Prop} {rt : D → Cs → Prop} {ex : Exn → DL.Env → Cs → Prop}
theorem r_seq (h : u ⟨fun ρ' cs' => v ⟨nx, rt, ex, bk, ct⟩ ρ' cs', rt, ex, bk, ct⟩ ρ cs) : sSeq u v ⟨nx, rt, ex, bk, ct⟩ ρ cs := h
theorem r_key (N : DL.Env → Cs → Prop) (h1 : ∀ ρ' cs', N ρ' cs' → v ⟨nx, rt, ex, bk, ct⟩ ρ' cs') (h2 : ∀ nx' : DL.Env → Cs → Prop, (∀ ρ' cs', N ρ' cs' → nx' ρ' cs') → u ⟨nx', rt, ex, bk, ct⟩ ρ cs) : sSeq u v ⟨nx, rt, ex, bk, ct⟩ ρ cs := h2 _ h1
theorem r_chk (h2 : ∀ nx' : DL.Env → Cs → Prop, nx' ρ cs → u ⟨nx', rt, ex, bk, ct⟩ ρ cs) (h1 : v ⟨nx, rt, ex, bk, ct⟩ ρ cs) : sSeq u v ⟨nx, rt, ex, bk, ct⟩ ρ cs := h2 _ h1
end
theorem r_loop {g : WG} {wb : WS} (I : Nat → DL.Env → Cs → Prop) : ∀ (xs : List D) (k : Nat) {ρ : DL.Env} {cs : Cs}, I k ρ cs →
    (∀ i d ρ cs (N : DL.Env → Cs → Prop), xs[i]? = some d → I (k + i) ρ cs → (∀ ρ' cs', I (k + i + 1) ρ' cs' → N ρ' cs') → g d ρ fun ρ1 => wb { f with nx := N, ct := N, bk := f.nx } ρ1 cs) →
    (∀ ρ cs, I (k + xs.length) ρ cs → f.nx ρ cs) → loopW g wb f xs ρ cs
  | [], k, ρ, cs, h0, hs, hd => hd ρ cs h0
  | d :: r, k, ρ, cs, h0, hs, hd => by
    refine hs 0 d ρ cs _ rfl h0 fun ρ' cs' h1 => r_loop I r (k + 1) h1 (fun i d ρ cs N e hi hn => ?_) (fun ρ cs h => ?_)
    · have e1 : k + (i + 1) = k + 1 + i := by omega
      refine hs (i + 1) d ρ cs N e (by rw [e1]; exact hi) fun ρ' cs' hh => hn ρ' cs' (by rw [← e1]; exact hh)
    · refine hd ρ cs ?_
      have e1 : k + (d :: r).length = k + 1 + r.length := by rw [List.length_cons]; omega
      rw [e1]; exact h
theorem r_loop0 {nx bk ct : DL.Env → Cs → Prop} {rt : D → Cs → Prop} {ex : Exn → DL.Env → Cs → Prop} {g : WG} {wb : WS} (I : Nat → DL.Env → Cs → Prop) {xs : List D} (h0 : I 0 ρ cs)
    (hs : ∀ i d ρ cs (N : DL.Env → Cs → Prop), xs[i]? = some d → I i ρ cs → (∀ ρ' cs', I (i + 1) ρ' cs' → N ρ' cs') → g d ρ fun ρ1 => wb ⟨N, rt, ex, nx, N⟩ ρ1 cs)
    (hd : ∀ ρ cs, I xs.length ρ cs → nx ρ cs) : loopW g wb ⟨nx, rt, ex, bk, ct⟩ xs ρ cs :=
  r_loop I xs 0 h0 (fun i d ρ cs N e hi hn => hs i d ρ cs N e (by rw [Nat.zero_add] at hi; exact hi) (by rw [Nat.zero_add] at hn; exact hn)) (fun ρ cs h => hd ρ cs (by rw [Nat.zero_add] at h; exact h))
theorem r_while {nx bk ct : DL.Env → Cs → Prop} {rt : D → Cs → Prop} {ex : Exn → DL.Env → Cs → Prop} {wt : WT} {wb : WS} (I : Nat → DL.Env → Cs → Prop) (h0 : ∃ m, I m ρ cs)
    (hs : ∀ m ρ cs (N : DL.Env → Cs → Prop), I m ρ cs → (∀ m' ρ' cs', m' < m → I m' ρ' cs' → N ρ' cs') → wt ρ cs (fun k cs1 => (k = true → wb ⟨N, rt, ex, nx, N⟩ ρ cs1) ∧ (k = false → nx ρ cs1)) (fun x cs1 => ex x ρ cs1)) :
    sWhile wt wb ⟨nx, rt, ex, bk, ct⟩ ρ cs := ⟨I, h0, fun m ρ cs h => hs m ρ cs _ h fun m' ρ' cs' hm hi => ⟨m', hm, hi⟩⟩
theorem r_gN {k : DL.Env → Prop} (h : k (ρ.set i (some d))) : gN i d ρ k := h
theorem r_gT {n : Nat} {gs : WGs} {ds : List D} {k : DL.Env → Prop} (hn : ds.length = n) (h : gs ds ρ k) : gT n gs (.tup ds) ρ k := ⟨hn, h⟩
theorem r_gCn {g : WG} {gs : WGs} {ds : List D} {k : DL.Env → Prop} (h : g d ρ fun ρ' => gs ds ρ' k) : gCn g gs (d :: ds) ρ k := h
theorem r_gNl {k : DL.Env → Prop} (h : k ρ) : gNl [] ρ k := h
theorem rng_get {lo : Int} {n i : Nat} {d : D} (h : (rngD lo n)[i]? = some d) : d = .int (lo + (i : Int)) ∧ i < n := by
  obtain ⟨h1, h2⟩ := List.getElem?_eq_some_iff.mp h
  simp [rngD] at h1 h2
  exact ⟨h2.symm, h1⟩
theorem rng_len (lo : Int) (n : Nat) : (rngD lo n).length = n := by simp [rngD]
theorem r_kT {A B : Prop} (h : A) : (true = true → A) ∧ (true = false → B) := ⟨fun _ => h, fun z => absurd z (by decide)⟩
theorem r_nT {A B : Prop} (h : B) : ((!true) = true → A) ∧ ((!true) = false → B) := ⟨fun z => absurd z (by decide), fun _ => h⟩
theorem r_nF {A B : Prop} (h : A) : ((!false) = true → A) ∧ ((!false) = false → B) := ⟨fun _ => h, fun z => absurd z (by decide)⟩
theorem r_kF {A B : Prop} (h : B) : (false = true → A) ∧ (false = false → B) := ⟨fun z => absurd z (by decide), fun _ => h⟩
section
variable {nx bk ct : DL.Env → Cs → Prop} {rt : D → Cs → Prop} {ex : Exn → DL.Env → Cs → Prop}
theorem r_nx (h : nx ρ cs) : Fin.nx ⟨nx, rt, ex, bk, ct⟩ ρ cs := h
theorem r_rt (h : rt d cs) : Fin.rt ⟨nx, rt, ex, bk, ct⟩ d cs := h
theorem r_bk (h : bk ρ cs) : Fin.bk ⟨nx, rt, ex, bk, ct⟩ ρ cs := h
theorem r_cn (h : ct ρ cs) : Fin.ct ⟨nx, rt, ex, bk, ct⟩ ρ cs := h
end
theorem r_next (h : f.nx ρ cs) : sNext f ρ cs := h
theorem r_ret (h : we ρ cs f.rt (fun x cs1 => f.ex x ρ cs1)) : sRet we f ρ cs := h
theorem r_retN (h : f.rt .non cs) : sRetN f ρ cs := h
theorem r_drop (h : we ρ cs (fun _ cs1 => f.nx ρ cs1) (fun x cs1 => f.ex x ρ cs1)) : sDrop we f ρ cs := h
theorem r_brk (h : f.bk ρ cs) : sBreak f ρ cs := h
theorem r_ct (h : f.ct ρ cs) : sCont f ρ cs := h
theorem r_sif (h : ta ρ cs (fun k cs1 => (k = true → u f ρ cs1) ∧ (k = false → v f ρ cs1)) (fun x cs1 => f.ex x ρ cs1)) : sIf ta u v f ρ cs := h
theorem r_set (h : we ρ cs (fun d cs1 => f.nx (ρ.set i (some d)) cs1) (fun x cs1 => f.ex x ρ cs1)) : sAsg we (gN i) f ρ cs := h
theorem r_asg {g : WG} (h : we ρ cs (fun d cs1 => g d ρ fun ρ' => f.nx ρ' cs1) (fun x cs1 => f.ex x ρ cs1)) : sAsg we g f ρ cs := h
theorem r_par (h : wa ρ cs (fun x cs1 => wb ρ cs1 (fun y cs2 => f.nx ((ρ.set i (some x)).set j (some y)) cs2) (fun x cs1 => f.ex x ρ cs1)) (fun x cs1 => f.ex x ρ cs1)) : sPar i j (wCons wa (wCons wb wNil)) f ρ cs := h
theorem r_setix (h : wv ρ cs (fun v cs1 => wo ρ cs1 (fun x cs2 => wi ρ cs2 (fun i cs3 => oSetL x i v cs3 fun cs4 => f.nx ρ cs4) (fun x cs1 => f.ex x ρ cs1)) (fun x cs1 => f.ex x ρ cs1)) (fun x cs1 => f.ex x ρ cs1)) : sSetIx wv wo wi oSetL f ρ cs := h
theorem r_aug {o : DO2} (hi : ρ[i]? = some (some x)) (h : we ρ cs (fun y cs1 => o x y cs1 fun z cs2 => f.nx (ρ.set i (some z)) cs2) (fun x cs1 => f.ex x ρ cs1)) : sAug i o we f ρ cs := by
  unfold sAug; rw [hi]; exact h
theorem r_for {wi : WI} {g : WG} (h : wi ρ cs (fun xs cs1 => loopW g u f xs ρ cs1) (fun x cs1 => f.ex x ρ cs1)) : sFor wi g u f ρ cs := h
theorem r_var (hi : ρ[i]? = some (some d)) (h : P d cs) : wVar i ρ cs P Z := by
  unfold wVar; rw [hi]; exact h
theorem r_c (h : P d cs) : wC d ρ cs P Z := h
theorem r_op {o : DO2} (h : wa ρ cs (fun x cs1 => wb ρ cs1 (fun y cs2 => o x y cs2 P) Z) Z) : wOp o wa wb ρ cs P Z := h
theorem r_un {o : D → Cs → DP → Prop} (h : wa ρ cs (fun x cs1 => o x cs1 P) Z) : wUn o wa ρ cs P Z := h
theorem r_test (h : wa ρ cs (fun x cs1 => match x with | .bl k => Q k cs1 | _ => False) Z) : wTest wa ρ cs Q Z := h
theorem r_and (h : ta ρ cs (fun k cs1 => (k = true → tb ρ cs1 Q Z) ∧ (k = false → Q false cs1)) Z) : wAnd ta tb ρ cs Q Z := h
theorem r_or (h : ta ρ cs (fun k cs1 => (k = true → Q true cs1) ∧ (k = false → tb ρ cs1 Q Z)) Z) : wOr ta tb ρ cs Q Z := h
theorem r_not (h : ta ρ cs (fun k cs1 => Q (!k) cs1) Z) : wNot ta ρ cs Q Z := h
theorem r_if (h : ta ρ cs (fun k cs1 => (k = true → wa ρ cs1 P Z) ∧ (k = false → wb ρ cs1 P Z)) Z) : wIf ta wa wb ρ cs P Z := h
theorem r_andV (h : wa ρ cs (fun x cs1 => match x with | .bl k => (k = true → wb ρ cs1 P Z) ∧ (k = false → P (.bl false) cs1) | _ => False) Z) : wAndV wa wb ρ cs P Z := h
theorem r_orV (h : wa ρ cs (fun x cs1 => match x with | .bl k => (k = true → P (.bl true) cs1) ∧ (k = false → wb ρ cs1 P Z) | _ => False) Z) : wOrV wa wb ρ cs P Z := h
theorem r_notV (h : wa ρ cs (fun x cs1 => match x with | .bl k => P (.bl (!k)) cs1 | _ => False) Z) : wNotV wa ρ cs P Z := h
theorem r_nil (h : PA [] cs) : wNil ρ cs PA Z := h
theorem r_cons (h : we ρ cs (fun x cs1 => w ρ cs1 (fun xs cs2 => PA (x :: xs) cs2) Z) Z) : wCons we w ρ cs PA Z := h
theorem r_tup (h : w ρ cs (fun ds cs1 => P (.tup ds) cs1) Z) : wTup w ρ cs P Z := h
theorem r_lst (h : w ρ cs (fun ds cs1 => P (.lst ds) cs1) Z) : wLst w ρ cs P Z := h
theorem r_cb {o : DOn} (h : w ρ cs (fun ds cs1 => o ds cs1 P) Z) : wCB o w ρ cs P Z := h
theorem r_call {sp : DSp} (h : w ρ cs (fun ds cs1 => sp ds cs1 P Z) Z) : wCall sp [] w ρ cs P Z := by
  unfold wCall
  have e : (fun (ds : List D) (cs1 : Cs) => sp (ds ++ []) cs1 P Z) = fun ds cs1 => sp ds cs1 P Z := by
    funext ds cs1
    rw [List.append_nil]
  rw [e]
  exact h
theorem r_mtL {o : DMt} (h : wo ρ cs (fun x cs1 => isL x cs1 ∧ w ρ cs1 (fun ds cs2 => o x ds cs2 P) Z) Z) : wMtL o wo w ρ cs P Z := h
theorem r_mtL0 {o : DMt} (h : wo ρ cs (fun x cs1 => isL x cs1 ∧ o x [] cs1 P) Z) : wMtL0 o wo ρ cs P Z := h
variable {a b : Int} {p : Addr} {xs : List D}
theorem r_add (h : P (.int (a + b)) cs) : oAdd (.int a) (.int b) cs P := h
theorem r_sub (h : P (.int (a - b)) cs) : oSub (.int a) (.int b) cs P := h
theorem r_mul (hm : IntMulOk a b) (h : P (.int (a * b)) cs) : oMul (.int a) (.int b) cs P := ⟨hm, h⟩
theorem r_div (hm : 0 < b ∧ b.natAbs.log2 < 9000) (h : P (.int (a / b)) cs) : oDiv (.int a) (.int b) cs P := ⟨hm, h⟩
theorem r_mod (hm : 0 < b) (h : P (.int (a % b)) cs) : oMod (.int a) (.int b) cs P := ⟨hm, h⟩
theorem r_pow (hm : CPow a b) (h : P (.int (a ^ b.toNat)) cs) : oPow (.int a) (.int b) cs P := ⟨hm, h⟩
theorem r_lt (h : P (.bl (decide (a < b))) cs) : oLt (.int a) (.int b) cs P := h
theorem r_le (h : P (.bl (decide (a ≤ b))) cs) : oLe (.int a) (.int b) cs P := h
theorem r_gt (h : P (.bl (decide (b < a))) cs) : oGt (.int a) (.int b) cs P := h
theorem r_ge (h : P (.bl (decide (b ≤ a))) cs) : oGe (.int a) (.int b) cs P := h
theorem r_neg (h : P (.int (-a)) cs) : oNeg (.int a) cs P := h
theorem r_eqI (h : P (.bl (decide (a = b))) cs) : oEq (.int a) (.int b) cs P := ⟨rfl, rfl, by rw [eqD_int]; exact h⟩
theorem r_neI (h : P (.bl (!decide (a = b))) cs) : oNe (.int a) (.int b) cs P := ⟨rfl, rfl, by rw [eqD_int]; exact h⟩
theorem r_eqS {s t : Str} (h : P (.bl (decide (s = t))) cs) : oEq (.str s) (.str t) cs P := ⟨rfl, rfl, by
  have e : eqD (.str s) (.str t) = decide (s = t) := by unfold eqD; rw [Bool.beq_eq_decide_eq]
  rw [e]; exact h⟩
theorem r_neS {s t : Str} (h : P (.bl (!decide (s = t))) cs) : oNe (.str s) (.str t) cs P := ⟨rfl, rfl, by
  have e : eqD (.str s) (.str t) = decide (s = t) := by unfold eqD; rw [Bool.beq_eq_decide_eq]
  rw [e]; exact h⟩
theorem eqD_bl (k l : Bool) : eqD (.bl k) (.bl l) = (k == l) := by unfold eqD; rfl
theorem r_eqB {k l : Bool} (h : P (.bl (k == l)) cs) : oEq (.bl k) (.bl l) cs P := ⟨rfl, rfl, by rw [eqD_bl]; exact h⟩
theorem r_neB {k l : Bool} (h : P (.bl (!(k == l))) cs) : oNe (.bl k) (.bl l) cs P := ⟨rfl, rfl, by rw [eqD_bl]; exact h⟩
theorem plD_dR (r : Rat) {n : Nat} : plD (n + 1) (dR r) = true := by
  cases n <;> rfl
theorem r_eqR {r s : Rat} (h : P (.bl (decide (r = s))) cs) : oEq (dR r) (dR s) cs P := ⟨plD_dR r, plD_dR s, by rw [eqD_dR]; exact h⟩
theorem r_neR {r s : Rat} (h : P (.bl (!decide (r = s))) cs) : oNe (dR r) (dR s) cs P := ⟨plD_dR r, plD_dR s, by rw [eqD_dR]; exact h⟩
theorem r_ixT (hi : atD xs a = some d) (h : P d cs) : oIx (.tup xs) (.int a) cs P := by
  unfold oIx; simp only [hi]; exact h
theorem r_ixL (hi : atD xs a = some d) (h : P d cs) : oIx (.lst xs) (.int a) cs P := by
  unfold oIx; simp only [hi]; exact h
theorem r_ixR0 {r : Rat} (h : P (.int r.num) cs) : oIx (dR r) (.int 0) cs P := h
theorem r_ixR1 {r : Rat} (h : P (.int (r.den : Int)) cs) : oIx (dR r) (.int 1) cs P := h
theorem r_ixM (hl : look p cs = some (.lst xs)) (hi : atD xs a = some d) (h : P d cs) : oIxM (.opq (.ref p)) (.int a) cs P := by
  unfold oIxM; simp only [hl, hi]; exact h
theorem r_setL {R : Cs → Prop} (hl : look p cs = some (.lst xs)) (hi : ixN xs.length a = some j) (h : R (put p (.lst (xs.set j d)) cs)) : oSetL (.opq (.ref p)) (.int a) d cs R := by
  unfold oSetL; simp only [hl, hi]; exact h
theorem r_abs (h : P (.int (if a < 0 then -a else a)) cs) : oAbs [.int a] cs P := h
theorem r_lenL (h : P (.int (xs.length : Int)) cs) : oLen [.lst xs] cs P := h
theorem r_lenT (h : P (.int (xs.length : Int)) cs) : oLen [.tup xs] cs P := h
theorem r_listL (h : P (.lst xs) cs) : oList [.lst xs] cs P := h
theorem r_listT (h : P (.lst xs) cs) : oList [.tup xs] cs P := h
theorem r_append (hl : look p cs = some (.lst xs)) (hz : xs.length < 100000) (h : P .non (put p (.lst (xs ++ [d])) cs)) : oAppend (.opq (.ref p)) [d] cs P := by
  unfold oAppend; simp only [hl]; exact ⟨hz, h⟩
theorem r_isM (hl : look p cs = some (.lst xs)) {R : Prop} (h : R) : isL (.opq (.ref p)) cs ∧ R := ⟨by unfold isL; simp only [hl], h⟩
theorem r_isL {R : Prop} (h : R) : isL (.lst xs) cs ∧ R := ⟨trivial, h⟩
theorem r_count (h1 : plL 20 xs = true) (h2 : plD 20 d = true) (h : P (.int (cntD xs d : Int)) cs) : oCount (.lst xs) [d] cs P := ⟨h1, h2, h⟩
theorem r_seqI {R : List D → Cs → Prop} (h : we ρ cs (fun d cs1 => match d with | .lst xs => R xs cs1 | _ => False) Z) : iSeq we ρ cs R Z := h
theorem r_tupI {R : List D → Cs → Prop} (h : we ρ cs (fun d cs1 => match d with | .tup xs => R xs cs1 | _ => False) Z) : iTupD we ρ cs R Z := h
theorem r_rg1 {R : List D → Cs → Prop} (h : we ρ cs (fun d cs1 => match d with | .int j => (-(2 ^ 62) ≤ j ∧ j < 2 ^ 62) ∧ R (rngD 0 j.toNat) cs1 | _ => False) Z) : iRg1 (wCons we wNil) ρ cs R Z := by
  unfold iRg1 wCons wNil
  have e : (fun (d : D) (cs1 : Cs) => (match [d] with | [D.int j] => (-(2 ^ 62) ≤ j ∧ j < 2 ^ 62) ∧ R (rngD 0 j.toNat) cs1 | _ => False)) = fun d cs1 => match d with | .int j => (-(2 ^ 62) ≤ j ∧ j < 2 ^ 62) ∧ R (rngD 0 j.toNat) cs1 | _ => False := by
    funext d cs1
    cases d <;> rfl
  rw [← e] at h
  exact h
theorem divOk {b : Int} (h : 0 < b) (h2 : b < 2 ^ 60) : 0 < b ∧ b.natAbs.log2 < 9000 := by
  refine ⟨h, ?_⟩
  have e : b.natAbs < 2 ^ 60 := by omega
  exact Nat.lt_of_lt_of_le (PySem.Flt.log2_lt_of (by decide) e) (by decide)
theorem put_look {p : Addr} {m : MO} : ∀ {cs : Cs}, look p cs = some m → put p m cs = cs
  | [], h => by cases h
  | (a, x) :: r, h => by
    unfold look at h
    unfold put
    split at h
    · rename_i e
      cases h
      rw [if_pos e]
    · rename_i e
      rw [if_neg e, put_look h]
theorem decT {p : Prop} [Decidable p] (h : decide p = true) : p := of_decide_eq_true h
theorem decF {p : Prop} [Decidable p] (h : decide p = false) : ¬ p := of_decide_eq_false h
theorem ndecT {p : Prop} [Decidable p] (h : (!decide p) = true) : ¬ p := by simpa using h
theorem ndecF {p : Prop} [Decidable p] (h : (!decide p) = false) : p := by simpa using h
end
end DL

namespace DL
open PySem PySem.Spec PyProof.Rows L2
section
variable {X : Cx} {W : WX} {K : PySem.W.Frag} {σ : L2.St} {H : Hp} {pos : Pos} {a b e : Expr} {es : List Expr} {wa wb we : DL.WE} {w : WA}
/-! ### isinstance with built-in types -/
theorem d_ty {x : Str} {n : String} (hg : Gl X x) (hm : X.mg x = none) (hv : bootBuiltins x = some (.type n)) (hn : x ≠ "__name__" := by decide) (hd : (x == ("__debug__" : Str)) = false := by decide) : DE X W (.Name x pos) (wC (.opq (.ty n))) :=
  d_of (pe_bltn hg hm hv (v := .ty n) rfl hn hd) fun _ => .opq _
def tyS : D → Option String
  | .non => some "NoneType"
  | .bl _ => some "bool"
  | .int _ => some "int"
  | .str _ => some "str"
  | .tup _ => some "tuple"
  | .lst _ => some "list"
  | .dic _ => some "dict"
  | _ => none
def isT (t n : String) : Bool := t == n || (t == "bool" && n == "int")
theorem isT_kit : (["NoneType", "bool", "int", "str", "tuple", "list", "dict"].all fun t => ["bool", "int", "str", "tuple", "list", "dict"].all fun n => kitB t n == some (isT t n)) = true := by decide +kernel
theorem isT_ok {d : D} {t n : String} (h : tyS d = some t) (hn : (["bool", "int", "str", "tuple", "list", "dict"].contains n) = true) : PySem.W.kitOne K (.type t) (.type n) = some (isT t n) := by
  refine kit_ty ?_
  have h1 : t ∈ ["NoneType", "bool", "int", "str", "tuple", "list", "dict"] := by
    cases d <;> simp [tyS] at h <;> subst h <;> decide
  have h2 : n ∈ ["bool", "int", "str", "tuple", "list", "dict"] := by simpa using hn
  exact eq_of_beq (List.all_eq_true.mp (List.all_eq_true.mp isT_kit t h1) n h2)
theorem tyX_of {F : Hp} {cs : Cs} {x : V} {d : D} {t : String} (r : Rep K (pur F cs H) x d) (h : tyS d = some t) : TyX K H x (.type t) := by
  cases r with
  | non => simp [tyS] at h; subst h; exact .base .non
  | bl b => simp [tyS] at h; subst h; exact .base (.bl b)
  | int i => simp [tyS] at h; subst h; exact .base (.int i)
  | str x => simp [tyS] at h; subst h; exact .base (.str x)
  | opq v => simp [tyS] at h
  | lst h1 r =>
    simp [tyS] at h; subst h
    rcases ex_l pur_le h1 with (q | ⟨o, q⟩) | ⟨o, its, n, q, c, _⟩
    · exact .base (.lst q)
    · exact .base (.frz q)
    · exact .kList q c
  | tup h1 r =>
    simp [tyS] at h; subst h
    rcases ex_t pur_le h1 with (q | ⟨o, q⟩) | ⟨o, its, n, q, c, _⟩
    · exact .base (.tup q)
    · exact .fTuple q
    · exact .kTuple q c
  | dic h1 r =>
    simp [tyS] at h; subst h
    exact .fDict (pur_le _ _ h1)
  | dct h1 r => simp [tyS] at h
  | ins h1 h2 r => simp [tyS] at h
  | xcp h1 r => simp [tyS] at h
def isiD (d : D) (n : String) : Option Bool := (tyS d).bind fun t => if (["bool", "int", "str", "tuple", "list", "dict"].contains n) = true then some (isT t n) else none
def oIsi : DOn := fun ds cs P => match ds with
  | [d, .opq (.ty n)] => (match isiD d n with
    | some k => P (.bl k) cs
    | none => False)
  | _ => False
theorem isiD_inv {d : D} {n : String} {k : Bool} (h : isiD d n = some k) : ∃ t, tyS d = some t ∧ (["bool", "int", "str", "tuple", "list", "dict"].contains n) = true ∧ k = isT t n := by
  unfold isiD at h
  cases e : tyS d with
  | none => rw [e] at h; cases h
  | some t =>
    rw [e, Option.bind_some] at h
    split at h
    · rename_i hn
      cases h
      exact ⟨t, rfl, hn, rfl⟩
    · cases h
theorem adq_isi : AdqN K (rIsi K) oIsi := fun F cs H xs ds P Q s r ho pe => by
  unfold oIsi at ho
  split at ho
  · split at ho
    · rename_i k e
      obtain ⟨t, h1, h2, h3⟩ := isiD_inv e
      cases r with
      | cons r1 r2 =>
        cases r2 with
        | cons r2 r3 =>
          cases r3
          cases r2
          exact ⟨_, _, _, _, k, rfl, .ty _, tyX_of r1 h1, by rw [h3]; exact isT_ok h1 h2, pe H cs _ _ s (.bl _) ho⟩
    · exact ho.elim
  · exact ho.elim
/-- isinstance(x, (T1, T2, ..)) -/
def tyNames : List D → Option (List String)
  | [] => some []
  | .opq (.ty n) :: r => if (["bool", "int", "str", "tuple", "list", "dict"].contains n) = true then (tyNames r).map (n :: ·) else none
  | _ => none
def oIsiT : DOn := fun ds cs P => match ds with
  | [d, .tup ts] => (match tyS d, tyNames ts with
    | some t, some ns => P (.bl (ns.any fun n => isT t n)) cs
    | _, _ => False)
  | _ => False
theorem isiAny_ok {G : Hp} {d : D} {t : String} (ht : tyS d = some t) : ∀ {ts : List D} {vs : List V} {ns : List String}, RepL K G vs ts → tyNames ts = some ns → Paired ClsV vs (ns.map Value.type) ∧ PySem.W.kitAny K (.type t) (ns.map Value.type) = some (ns.any fun n => isT t n)
  | [], _, ns, .nil, h => by
      have e : some [] = some ns := h
      cases e; exact ⟨.nil, rfl⟩
  | c :: r, _, ns, .cons r1 r2, h => by
    cases c <;> try (simp [tyNames] at h; done)
    rename_i v
    cases v <;> try (simp [tyNames] at h; done)
    rename_i n
    cases r1
    unfold tyNames at h
    split at h
    · rename_i hn
      cases e : tyNames r with
      | none => rw [e] at h; cases h
      | some ms =>
        rw [e] at h
        cases h
        obtain ⟨p1, p2⟩ := isiAny_ok ht r2 e
        refine ⟨.cons (.ty n) p1, ?_⟩
        rw [List.map_cons, List.any_cons]
        exact kitAny_cons (b := isT t n) (isT_ok ht hn) (fun z => by rw [p2, z, Bool.false_or]) (fun z => by rw [z, Bool.true_or])
    · cases h
theorem adq_isiT : AdqN K (fun xs H Q => ∃ (x : V) (tp : Addr) (cs : List V) (t : Value) (us : List Value) (b : Bool), xs = [x, .ref tp] ∧ SqT K H tp cs ∧ Paired ClsV cs us ∧ TyX K H x t ∧ PySem.W.kitAny K t us = some b ∧ Q (.bl b) H) oIsiT := fun F cs H xs ds P Q s r ho pe => by
  unfold oIsiT at ho
  split at ho
  · split at ho
    · rename_i t ns e1 e2
      cases r with
      | cons r1 r2 =>
        cases r2 with
        | cons r2 r3 =>
          cases r3
          cases r2 with
          | tup h r =>
            obtain ⟨p1, p2⟩ := isiAny_ok e1 r e2
            exact ⟨_, _, _, _, _, _, rfl, ex_t pur_le h, p1, tyX_of r1 e1, p2, pe H cs _ _ s (.bl _) ho⟩
    · exact ho.elim
  · exact ho.elim
theorem call_isiD : CallR X (.builtin "isinstance") (fun xs H Q => ∃ (x : V) (tp : Addr) (cs : List V) (t : Value) (us : List Value) (b : Bool), xs = [x, .ref tp] ∧ SqT X.K H tp cs ∧ Paired ClsV cs us ∧ TyX X.K H x t ∧ PySem.W.kitAny X.K t us = some b ∧ Q (.bl b) H) := by
  intro pins s σ H xs us Q I r h
  obtain ⟨x, tp, cs, t, ws, b, rfl, hT, k, ty, e, q⟩ := h
  obtain ⟨u1, u2, rfl, r1, r2⟩ := vals2 r
  cases (show u2 = Value.ref tp from r2)
  obtain ⟨P, Z, p, hx⟩ := kit_of I r1 ty
  obtain ⟨its, rv, ⟨o, h1, h2, n, h3⟩, _⟩ := I.tuple hT
  have e3 := ClsV.all k rv
  subst e3
  obtain ⟨oc, od, dt, sl⟩ := o
  simp only at h2 h3
  subst h2 h3
  exact PySem.W.kia_tup Z I.kIn p h1 e hx fun tk => ⟨.bl b, H, I.tok tk, rfl, q⟩
/-! ### sum, all, max, min, tuple -/
def intsOf : List D → Option (List Int)
  | [] => some []
  | .int i :: r => (intsOf r).map (i :: ·)
  | _ => none
def blsOf : List D → Option (List Bool)
  | [] => some []
  | .bl i :: r => (blsOf r).map (i :: ·)
  | _ => none
theorem intsOf_map (ns : List Int) : intsOf (ns.map D.int) = some ns := by
  induction ns with
  | nil => rfl
  | cons n ns ih => rw [List.map_cons]; unfold intsOf; rw [ih]; rfl
theorem blsOf_map (ns : List Bool) : blsOf (ns.map D.bl) = some ns := by
  induction ns with
  | nil => rfl
  | cons n ns ih => rw [List.map_cons]; unfold blsOf; rw [ih]; rfl
theorem intsOf_inv : ∀ {ds : List D} {ns : List Int}, intsOf ds = some ns → ds = ns.map D.int
  | [], ns, h => by cases h; rfl
  | d :: r, ns, h => by
    cases d <;> try (simp [intsOf] at h; done)
    unfold intsOf at h
    cases e : intsOf r with
    | none => rw [e] at h; cases h
    | some ms => rw [e] at h; cases h; rw [intsOf_inv e]; rfl
theorem blsOf_inv : ∀ {ds : List D} {ns : List Bool}, blsOf ds = some ns → ds = ns.map D.bl
  | [], ns, h => by cases h; rfl
  | d :: r, ns, h => by
    cases d <;> try (simp [blsOf] at h; done)
    unfold blsOf at h
    cases e : blsOf r with
    | none => rw [e] at h; cases h
    | some ms => rw [e] at h; cases h; rw [blsOf_inv e]; rfl
def oSum : DOn := fun ds cs P => match ds with
  | [.lst xs] => (match intsOf xs with
    | some ns => P (.int ns.sum) cs
    | none => False)
  | _ => False
def oAll : DOn := fun ds cs P => match ds with
  | [.lst xs] => (match blsOf xs with
    | some bs => P (.bl (bs.all id)) cs
    | none => False)
  | _ => False
theorem adq_sum : AdqN K (rSum K) oSum := fun F cs H xs ds P Q s r ho pe => by
  unfold oSum at ho
  split at ho
  · split at ho
    · rename_i ns e
      have e1 := intsOf_inv e
      cases r with
      | cons r1 r2 =>
        cases r2
        cases r1 with
        | lst h r =>
          rw [e1] at r
          have e2 := RepL.intsL ns r
          subst e2
          exact ⟨_, ns, rfl, ex_l pur_le h, pe H cs _ _ s (.int _) ho⟩
    · exact ho.elim
  · exact ho.elim
theorem adq_all : AdqN K (rAll K) oAll := fun F cs H xs ds P Q s r ho pe => by
  unfold oAll at ho
  split at ho
  · split at ho
    · rename_i ns e
      have e1 := blsOf_inv e
      cases r with
      | cons r1 r2 =>
        cases r2
        cases r1 with
        | lst h r =>
          rw [e1] at r
          have e2 := RepL.bls ns r
          subst e2
          exact ⟨_, ns, rfl, ex_l pur_le h, pe H cs _ _ s (.bl _) ho⟩
    · exact ho.elim
  · exact ho.elim
def oTuple : DOn := fun ds cs P => match ds with
  | [.lst xs] => P (.tup xs) cs
  | [.tup xs] => P (.tup xs) cs
  | _ => False
theorem adq_tuple : AdqN K (fun xs H Q => ∃ p ys, xs = [.ref p] ∧ ((SqL K H p ys ∧ ∀ l, H l = none → Q (.ref l) (upd H l (.tup ys))) ∨ (SqT K H p ys ∧ Q (.ref p) H))) oTuple := fun F cs H xs ds P Q s r ho pe => by
  unfold oTuple at ho
  split at ho
  · cases r with
    | cons r1 r2 =>
      cases r2
      cases r1 with
      | lst h r =>
        refine ⟨_, _, rfl, .inl ⟨ex_l pur_le h, fun l hl => ?_⟩⟩
        obtain ⟨s2, e2⟩ := s.new (o := .tup _) hl
        exact pe _ cs _ _ s2 (.tup (SqT.of e2) (r.mono s2.gr)) ho
  · cases r with
    | cons r1 r2 =>
      cases r2
      cases r1 with
      | tup h r => exact ⟨_, _, rfl, .inr ⟨ex_t pur_le h, pe H cs _ _ s (.tup h r) ho⟩⟩
  · exact ho.elim
/-! ### tuples: slices, + -/
def oSlT : D → Option Int → Option Int → Cs → DP → Prop := fun x lo hi cs P => match x with
  | .tup xs => P (.tup (cutD xs lo hi)) cs
  | _ => False
theorem cutD_whole {xs : List D} {lo hi : Option Int} (h1 : HT.sIx xs.length 0 lo = 0) (h2 : HT.sIx xs.length xs.length hi = xs.length) : DL.cutD xs lo hi = xs := by
  unfold DL.cutD
  rw [h1, h2, List.drop_zero]
  exact List.take_of_length_le (by omega)
theorem adq_slT : AdqS K (rSlA K) oSlT := fun F cs H x dx lo hi P Q s rx ho pe => by
  unfold oSlT at ho
  split at ho
  · cases rx with
    | tup h r =>
      refine ⟨_, _, rfl, ex_t pur_le h, fun hw => ?_, fun _ p hp => ?_⟩
      · rw [r.length] at hw
        rw [cutD_whole hw.1 hw.2] at ho
        exact pe H cs _ _ s (.tup h r) ho
      · obtain ⟨s2, e2⟩ := s.new (o := .tup (cutV _ lo hi)) hp
        exact pe _ cs _ _ s2 (.tup (SqT.of e2) ((r.cut lo hi).mono s2.gr)) ho
  · exact ho.elim
def oCatT : DO2 := fun x y cs P => match x, y with
  | .tup xs, .tup ys => xs.length + ys.length ≤ 100000 ∧ P (.tup (xs ++ ys)) cs
  | _, _ => False
theorem adq_catT : Adq K (rCatA K) oCatT := fun F cs H x y dx dy P Q s rx ry ho pe => by
  unfold oCatT at ho
  split at ho
  · obtain ⟨hz, ho⟩ := ho
    cases rx with
    | @tup _ vs _ hx r1 =>
      cases ry with
      | @tup _ us _ hy r2 =>
        refine ⟨_, _, vs, us, rfl, rfl, ex_t pur_le hx, ex_t pur_le hy, by rw [r1.length, r2.length]; exact Nat.le_trans hz (by decide), fun e => ?_, fun _ e => ?_, fun _ _ p hp => ?_⟩
        · subst e
          cases r1
          exact pe H cs _ _ s (.tup hy r2) ho
        · subst e
          cases r2
          rw [List.append_nil] at ho
          exact pe H cs _ _ s (.tup hx r1) ho
        · obtain ⟨s2, e2⟩ := s.new (o := .tup (vs ++ us)) hp
          exact pe _ cs _ _ s2 (.tup (SqT.of e2) ((r1.append r2).mono s2.gr)) ho
  · exact ho.elim
theorem d_catT (ha : DE X W a wa) (hb : DE X W b wb) : DE X W (.BinOp a .Add b pos) (wOp oCatT wa wb) := d_op op_catA adq_catT ha hb
/-! ### zip -/
theorem yi_zipL {G : Hp} {p q : Addr} {xs ys : List V} {ds es : List D} (h1 : SqL K G p xs) (r1 : RepL K G xs ds) (h2 : SqL K G q ys) (r2 : RepL K G ys es) : YI K (Itz K p q) G (List.zipWith (fun d e => D.tup [d, e]) ds es) where
  go := fun i d e F cs H s => by
    rw [List.getElem?_zipWith] at e
    cases e1 : ds[i]? with
    | none => rw [e1] at e; cases e
    | some x => cases e2 : es[i]? with
      | none => rw [e1, e2] at e; cases e
      | some y =>
        obtain ⟨v, a1, _⟩ := r1.get e1
        obtain ⟨u, a2, _⟩ := r2.get e2
        exact ⟨xs, ys, v, u, ex_l (s.gr.trans pur_le) h1, ex_l (s.gr.trans pur_le) h2, a1, a2⟩
  yld := fun i d e F cs H x H' s hy => by
    obtain ⟨T, v, u, rfl, hT, rfl, k1, k2⟩ := hy
    rw [List.getElem?_zipWith] at e
    cases e1 : ds[i]? with
    | none => rw [e1] at e; cases e
    | some dx => cases e2 : es[i]? with
      | none => rw [e1, e2] at e; cases e
      | some dy =>
        rw [e1, e2] at e
        cases e
        obtain ⟨v', a1, b1⟩ := r1.get e1
        obtain ⟨u', a2, b2⟩ := r2.get e2
        have c1 := k1 xs (ex_l (s.gr.trans pur_le) h1)
        have c2 := k2 ys (ex_l (s.gr.trans pur_le) h2)
        rw [a1] at c1; rw [a2] at c2
        obtain rfl := Option.some.inj c1
        obtain rfl := Option.some.inj c2
        obtain ⟨s2, e3⟩ := s.new (o := .tup [_, _]) hT
        exact ⟨s2, .tup (SqT.of e3) (.cons (b1.mono (s.gr.trans s2.gr)) (.cons (b2.mono (s.gr.trans s2.gr)) .nil))⟩
  stop := fun F cs H s => by
    refine ⟨xs, ys, ex_l (s.gr.trans pur_le) h1, ex_l (s.gr.trans pur_le) h2, ?_⟩
    rw [List.length_zipWith, r1.length, r2.length]; omega
theorem yi_zipT {G : Hp} {p q : Addr} {xs ys : List V} {ds es : List D} (h1 : SqT K G p xs) (r1 : RepL K G xs ds) (h2 : SqT K G q ys) (r2 : RepL K G ys es) : YI K (RZ.ItzT K p q) G (List.zipWith (fun d e => D.tup [d, e]) ds es) where
  go := fun i d e F cs H s => by
    rw [List.getElem?_zipWith] at e
    cases e1 : ds[i]? with
    | none => rw [e1] at e; cases e
    | some x => cases e2 : es[i]? with
      | none => rw [e1, e2] at e; cases e
      | some y =>
        obtain ⟨v, a1, _⟩ := r1.get e1
        obtain ⟨u, a2, _⟩ := r2.get e2
        exact ⟨xs, ys, v, u, ex_t (s.gr.trans pur_le) h1, ex_t (s.gr.trans pur_le) h2, a1, a2⟩
  yld := fun i d e F cs H x H' s hy => by
    obtain ⟨T, v, u, rfl, hT, rfl, k1, k2⟩ := hy
    rw [List.getElem?_zipWith] at e
    cases e1 : ds[i]? with
    | none => rw [e1] at e; cases e
    | some dx => cases e2 : es[i]? with
      | none => rw [e1, e2] at e; cases e
      | some dy =>
        rw [e1, e2] at e
        cases e
        obtain ⟨v', a1, b1⟩ := r1.get e1
        obtain ⟨u', a2, b2⟩ := r2.get e2
        have c1 := k1 xs (ex_t (s.gr.trans pur_le) h1)
        have c2 := k2 ys (ex_t (s.gr.trans pur_le) h2)
        rw [a1] at c1; rw [a2] at c2
        obtain rfl := Option.some.inj c1
        obtain rfl := Option.some.inj c2
        obtain ⟨s2, e3⟩ := s.new (o := .tup [_, _]) hT
        exact ⟨s2, .tup (SqT.of e3) (.cons (b1.mono (s.gr.trans s2.gr)) (.cons (b2.mono (s.gr.trans s2.gr)) .nil))⟩
  stop := fun F cs H s => by
    refine ⟨xs, ys, ex_t (s.gr.trans pur_le) h1, ex_t (s.gr.trans pur_le) h2, ?_⟩
    rw [List.length_zipWith, r1.length, r2.length]; omega
def iZp (w : WA) : WI := fun ρ cs P Z => w ρ cs (fun ds cs1 => match ds with
  | [.lst xs, .lst ys] => P (List.zipWith (fun d e => D.tup [d, e]) xs ys) cs1
  | [.tup xs, .tup ys] => P (List.zipWith (fun d e => D.tup [d, e]) xs ys) cs1
  | _ => False) Z
theorem zp_inv {ds : List D} {g : List D → List D → Prop} (h : (match ds with | [D.lst xs, D.lst ys] => g xs ys | [D.tup xs, D.tup ys] => g xs ys | _ => False)) : ∃ xs ys, (ds = [.lst xs, .lst ys] ∨ ds = [.tup xs, .tup ys]) ∧ g xs ys := by
  match ds, h with
  | [D.lst xs, D.lst ys], h => exact ⟨xs, ys, .inl rfl, h⟩
  | [D.tup xs, D.tup ys], h => exact ⟨xs, ys, .inr rfl, h⟩
theorem di_zip {e2 : Expr} {p tpos : Pos} {elts : List Expr} {kk : Nat} (hg : Gl X "zip") (hm : X.mg "zip" = none) (ha : DA X W [e, e2] w)
    (hs : starEach [e, e2] X.env = (false, eval e X.env) :: starEach [e2] X.env := by rfl) (hpl : (backTo pos (starEach [e2] X.env)).any (·.1) = false := by rfl) :
    DI X W (.Tuple elts kk tpos) (.Call (.Name "zip" p) [e, e2] [] pos) (iZp w) := PI.imp (RZ.pi_zipA hg hm ha hs hpl) fun σ H R hq => by
  obtain ⟨F, cs, ρ, P, Z, s, re, hw, pe, px⟩ := hq
  refine ⟨F, cs, ρ, _, Z, s, re, hw, fun H1 cs1 vs ds s1 r1 l1 h1 => ?_, px⟩
  obtain ⟨xs, ys, e1, h⟩ := zp_inv h1
  rcases e1 with e1 | e1
  · subst e1
    cases r1 with
    | cons r1 r2 =>
      cases r2 with
      | cons r2 r3 =>
        cases r3
        cases r1 with
        | lst a1 b1 =>
          cases r2 with
          | lst a2 b2 => exact ⟨_, _, _, _, rfl, .inl ⟨ex_l pur_le a1, ex_l pur_le a2, pe H1 cs1 _ _ s1 (yi_zipL a1 b1 a2 b2) h⟩⟩
  · subst e1
    cases r1 with
    | cons r1 r2 =>
      cases r2 with
      | cons r2 r3 =>
        cases r3
        cases r1 with
        | tup a1 b1 =>
          cases r2 with
          | tup a2 b2 => exact ⟨_, _, _, _, rfl, .inr ⟨ex_t pur_le a1, ex_t pur_le a2, pe H1 cs1 _ _ s1 (yi_zipT a1 b1 a2 b2) h⟩⟩
end
/-! ### comprehensions -/
abbrev W0 : WX := fun _ _ _ _ => False
abbrev Z0 : XZ := fun _ _ => False
section
variable {X : Cx} {W : WX} {K : PySem.W.Frag} {σ : L2.St} {H : Hp}
def compW (g : WG) (wt : WT) (we : DL.WE) : List D → DL.Env → Cs → List D → (List D → Cs → Prop) → Prop
  | [], _, cs, acc, P => P acc cs
  | d :: r, ρ, cs, acc, P => g d ρ fun ρ1 => wt ρ1 cs (fun k cs1 => (k = true → we ρ1 cs1 (fun y cs2 => compW g wt we r ρ cs2 (acc ++ [y]) P) Z0) ∧ (k = false → compW g wt we r ρ cs1 acc P)) Z0
def wipeD (ρ : DL.Env) : List Nat → DL.Env
  | [] => ρ
  | v :: vs => (wipeD ρ vs).set v none
def wComp (wi : WI) (g : WG) (wt : WT) (we : DL.WE) (vs : List Nat) : DL.WE := fun ρ cs P Z => wi ρ cs (fun xs cs1 => xs.length ≤ 100000 ∧ compW g wt we xs (wipeD ρ vs) cs1 [] (fun ds cs2 => P (.lst ds) cs2)) Z
def wYes : WT := fun _ cs P _ => P true cs
theorem yes_ok {Q : Bool → Hp → Prop} (h : lT K W wYes σ H Q) : tYes σ H Q := by
  obtain ⟨F, cs, ρ, P, Z, s, re, hw, pe, px⟩ := h
  exact pe H cs true s hw
theorem PTs.imp {X : Cx} {ifs : List Expr} {t t' : TT} (h : PTs X ifs t) (i : ∀ σ H Q, t' σ H Q → t σ H Q) : PTs X ifs t' := ⟨fun pins s σ H Q I q => h.run pins s σ H Q I (i σ H Q q)⟩
theorem dts_nil : PTs X [] (lT X.K W wYes) := PTs.imp pts_nil fun _ _ _ h => yes_ok h
theorem dts_one {c : Expr} {wt : WT} (h : DT X W c wt) : PTs X [c] (lT X.K W wt) := pts_one h
theorem RepE.setN {G : Hp} {σ : L2.St} {ρ : DL.Env} (r : RepE K G σ ρ) : ∀ i, RepE K G (σ.set i none) (ρ.set i none) := fun i => by
  induction r generalizing i with
  | nil => exact .nil
  | cons h r ih => cases i with
    | zero => exact .cons .skip r
    | succ i => exact .cons h (ih i)
theorem RepE.wipe {G : Hp} {σ : L2.St} {ρ : DL.Env} (r : RepE K G σ ρ) : ∀ vs, RepE K G (L2.wipe σ vs) (wipeD ρ vs)
  | [] => r
  | v :: vs => (RepE.wipe r vs).setN v
theorem set_none_comm (σ : L2.St) (i j : Nat) (v : Option V) (h : i ≠ j) : (σ.set i v).set j none = (σ.set j none).set i v := (List.set_comm v none h)
theorem wipe_set {σ : L2.St} {i : Nat} {v : Option V} : ∀ {vs : List Nat}, i ∈ vs → L2.wipe (σ.set i v) vs = L2.wipe σ vs
  | [], h => by cases h
  | a :: vs, h => by
    unfold L2.wipe
    by_cases hi : i ∈ vs
    · rw [wipe_set hi]
    · have e : i = a := by
        rcases List.mem_cons.mp h with z | z
        · exact z
        · exact absurd z hi
      subst e
      have key : ∀ (vs : List Nat), i ∉ vs → L2.wipe (σ.set i v) vs = (L2.wipe σ vs).set i v := by
        intro vs
        induction vs with
        | nil => intro _; rfl
        | cons b bs ih =>
          intro hb
          have h1 : i ≠ b := fun z => hb (z ▸ List.mem_cons_self ..)
          unfold L2.wipe
          rw [ih fun z => hb (List.mem_cons_of_mem _ z), set_none_comm _ _ _ _ h1]
      rw [key vs hi, List.set_set]
theorem wipe_wipe {σ : L2.St} : ∀ {vs : List Nat}, L2.wipe (L2.wipe σ vs) vs = L2.wipe σ vs := by
  intro vs
  have key : ∀ (us : List Nat), (∀ u ∈ us, u ∈ vs) → L2.wipe (L2.wipe σ us) vs = L2.wipe σ vs := by
    intro us
    induction us with
    | nil => intro _; rfl
    | cons a us ih =>
      intro h
      have e : L2.wipe σ (a :: us) = (L2.wipe σ us).set a none := rfl
      rw [e, wipe_set (h a (List.mem_cons_self ..)), ih fun u hu => h u (List.mem_cons_of_mem _ hu)]
  exact key vs fun _ h => h
/-- a thing of ours is put aside -/
theorem ft_upd {F : Hp} {p : Addr} {o : HO} (h : ∀ a xs, F a ≠ some (.tup xs)) (ho : ∀ xs, o ≠ .tup xs) : ∀ a xs, upd F p o a ≠ some (.tup xs) := fun a xs e => by
  by_cases hb : a = p
  · rw [hb, upd_same] at e; exact ho xs (Option.some.inj e)
  · rw [upd_ne hb] at e; exact h a xs e
theorem ft_back {F : Hp} {p : Addr} {o : HO} (h : ∀ a xs, upd F p o a ≠ some (.tup xs)) (hF : F p = none) : ∀ a xs, F a ≠ some (.tup xs) := fun a xs e => by
  refine h a xs ?_
  rw [upd_ne (fun z => by rw [z, hF] at e; cases e)]; exact e
theorem Sta.aside {F G0 : Hp} {cs : Cs} {p : Addr} {o : HO} (s : Sta K F G0 cs H) (h : H p = none) (ho : ∀ xs, o ≠ .tup xs := by intro _ z; cases z) : Sta K (upd F p o) (pur F cs H) cs (upd H p o) := by
  obtain ⟨hF, hc⟩ := s.notin h
  have g : Ex (pur F cs H) (pur (upd F p o) cs (upd H p o)) := fun b u e => by
    obtain ⟨e1, e2, e3⟩ := pur_of e
    have hb : b ≠ p := ne_of_none e1 h
    rw [pur_at (by rw [upd_ne hb]; exact e2) e3, upd_ne hb]; exact e1
  refine ⟨fun b u e => ?_, g, s.nd, fun a ha => ?_, fun a m hm => ?_, ft_upd s.ft ho⟩
  · by_cases hb : b = p
    · subst hb; rw [upd_same] at e ⊢; exact e
    · rw [upd_ne hb] at e ⊢; exact s.fr b u e
  · rw [upd_ne (show a ≠ p from fun z => hc (by rw [← z]; exact ha))]; exact s.ap a ha
  · obtain ⟨u, hu, q⟩ := s.ow a m hm
    exact ⟨u, by rw [upd_ne (ne_of_none hu h)]; exact hu, q.mono g⟩
theorem Sta.turn {F G0 : Hp} {cs : Cs} {p : Addr} {o o' : HO} (s : Sta K (upd F p o) G0 cs H) (hF : F p = none) (ho : ∀ xs, o' ≠ .tup xs := by intro _ z; cases z) : Sta K (upd F p o') G0 cs (upd H p o') ∧ pur (upd F p o') cs (upd H p o') = pur (upd F p o) cs H := by
  have e : pur (upd F p o') cs (upd H p o') = pur (upd F p o) cs H := by
    funext b
    unfold pur
    by_cases hb : b = p
    · subst hb
      rw [if_pos (.inl (by rw [upd_same]; rfl)), if_pos (.inl (by rw [upd_same]; rfl))]
    · rw [upd_ne hb, upd_ne hb, upd_ne hb]
  refine ⟨⟨fun b u h => ?_, by rw [e]; exact s.gr, s.nd, fun a ha => ?_, fun a m hm => ?_, ft_upd (ft_back s.ft hF) ho⟩, e⟩
  · by_cases hb : b = p
    · subst hb; rw [upd_same] at h ⊢; exact h
    · rw [upd_ne hb] at h ⊢
      exact s.fr b u (by rw [upd_ne hb]; exact h)
  · have := s.ap a ha
    by_cases hb : a = p
    · subst hb; rw [upd_same] at this; cases this
    · rw [upd_ne hb] at this ⊢; exact this
  · obtain ⟨u, hu, q⟩ := s.ow a m hm
    have ha := s.ap a (List.mem_map.mpr ⟨(a, m), hm, rfl⟩)
    have hb : a ≠ p := fun z => by subst z; rw [upd_same] at ha; cases ha
    exact ⟨u, by rw [upd_ne hb]; exact hu, by rw [e]; exact q⟩
/-- .. and is data again -/
theorem Sta.back {F G0 : Hp} {cs : Cs} {p : Addr} {o : HO} (s : Sta K (upd F p o) G0 cs H) (hF : F p = none) : Sta K F G0 cs H ∧ Ex (pur (upd F p o) cs H) (pur F cs H) ∧ pur F cs H p = some o := by
  have hc : p ∉ adr cs := fun z => by
    have := s.ap p z
    rw [upd_same] at this; cases this
  have g : Ex (pur (upd F p o) cs H) (pur F cs H) := fun b u e => by
    obtain ⟨e1, e2, e3⟩ := pur_of e
    by_cases hb : b = p
    · subst hb; rw [upd_same] at e2; cases e2
    · rw [upd_ne hb] at e2
      rw [pur_at e2 e3]; exact e1
  refine ⟨⟨fun b u e => ?_, s.gr.trans g, s.nd, fun a ha => ?_, fun a m hm => ?_, ft_back s.ft hF⟩, g, ?_⟩
  · refine s.fr b u ?_
    rw [upd_ne (fun z => by rw [z, hF] at e; cases e)]; exact e
  · have := s.ap a ha
    by_cases hb : a = p
    · exact absurd (hb ▸ ha) hc
    · rw [upd_ne hb] at this; exact this
  · obtain ⟨u, hu, q⟩ := s.ow a m hm
    exact ⟨u, hu, q.mono g⟩
  · rw [pur_at hF hc]
    exact s.fr p o upd_same
/-- how a target of a comprehension binds: its slots alone -/
def GOk (K : PySem.W.Frag) (g : TG) (gd : WG) (vs : List Nat) : Prop := ∀ F cs H σ ρ v d k (Q : L2.St → Hp → Prop), Sta K F (pur F cs H) cs H → RepE K (pur F cs H) σ ρ → Rep K (pur F cs H) v d → L2.wipe σ vs = σ → gd d ρ k →
  (∀ σ' ρ', L2.wipe σ' vs = σ → RepE K (pur F cs H) σ' ρ' → k ρ' → Q σ' H) → g v σ H Q
theorem gok_name {i : Nat} {vs : List Nat} (h : i ∈ vs) : GOk K (gName i) (gN i) vs := fun F cs H σ ρ v d k Q s re r hw hk q => by
  refine q _ _ ?_ (re.set r i) hk
  rw [wipe_set h, hw]
theorem gok_two {i j : Nat} {vs : List Nat} (hi : i ∈ vs) (hj : j ∈ vs) : GOk K (gTup K 2 (gCons (gName i) (gCons (gName j) gNil))) (gT 2 (gCn (gN i) (gCn (gN j) gNl))) vs := fun F cs H σ ρ v d k Q s re r hw hk q => by
  cases d <;> try exact hk.elim
  rename_i ds
  obtain ⟨hl, hk⟩ := hk
  cases r with
  | tup h r =>
    obtain ⟨d1, d2, rfl⟩ : ∃ d1 d2, ds = [d1, d2] := by
      cases ds with
      | nil => cases hl
      | cons d1 ds => cases ds with
        | nil => cases hl
        | cons d2 ds => cases ds with
          | nil => exact ⟨d1, d2, rfl⟩
          | cons _ _ => simp at hl
    cases r with
    | cons r1 r =>
      cases r with
      | cons r2 r =>
        cases r
        exact ⟨_, _, rfl, ex_t pur_le h, rfl, _, _, rfl, _, _, rfl, rfl, q _ _ (by rw [wipe_set hj, wipe_set hi, hw]) ((re.set r1 i).set r2 j) hk⟩
theorem lc_ok {wi : WI} {g : TG} {gd : WG} {wt : WT} {we : DL.WE} {vs : List Nat} (gk : GOk K g gd vs) {Q : VK} : lE K W (wComp wi gd wt we vs) σ H Q → tLc (lI K W wi) g (lT K W0 wt) (lE K W0 we) vs σ H Q := by
  rintro ⟨F, cs, ρ, P, Z, s, re, hw, pe, px⟩
  refine ⟨F, cs, ρ, _, Z, s, re, hw, fun H1 cs1 J xs s1 yi h1 => ?_, px⟩
  intro D hD
  obtain ⟨hlen, h1⟩ := h1
  have hFD : F D = none := s1.fr.back hD
  have reW : RepE K (pur F cs1 H1) (L2.wipe σ vs) (wipeD ρ vs) := (re.mono s1.gr).wipe vs
  refine ⟨fun i m H' => i ≤ xs.length ∧ m = xs.length - i ∧ ∃ cs' acc vacc, Sta K (upd F D (.lst vacc)) (pur F cs1 H1) cs' H' ∧ RepL K (pur (upd F D (.lst vacc)) cs' H') vacc acc ∧ acc.length ≤ i ∧ compW gd wt we (xs.drop i) (wipeD ρ vs) cs' acc (fun ds cs2 => P (.lst ds) cs2),
    ⟨xs.length, Nat.zero_le _, rfl, cs1, [], [], s1.aside hD, .nil, Nat.le_refl _, h1⟩, ?_⟩
  rintro i m H2 ⟨hi, rfl, cs2, acc, vacc, s2, ra, hla, h2⟩
  cases e : xs.drop i with
  | nil =>
    have hl : xs.length ≤ i := by
      have z := congrArg List.length e
      rw [List.length_drop] at z
      have z' : xs.length - i = 0 := z
      omega
    have hie : i = xs.length := by omega
    rw [e] at h2
    obtain ⟨s3, g3, e3⟩ := s2.back hFD
    refine .inl ⟨by rw [hie]; exact yi.stop _ cs2 H2 s2, pe H2 cs2 _ _ (s3.from_ s1.gr) (.lst (SqL.of e3) (ra.mono g3)) h2⟩
  | cons d r =>
    obtain ⟨e1, e2⟩ := drop_cons e
    have hlt : i < xs.length := (List.getElem?_eq_some_iff.mp e1).1
    rw [e] at h2
    refine .inr ⟨yi.go i d e1 _ cs2 H2 s2, fun H' => ∃ cs' acc vacc, Sta K (upd F D (.lst vacc)) (pur F cs1 H1) cs' H' ∧ RepL K (pur (upd F D (.lst vacc)) cs' H') vacc acc ∧ acc.length ≤ i + 1 ∧ compW gd wt we r (wipeD ρ vs) cs' acc (fun ds cs2 => P (.lst ds) cs2), ?_, ?_⟩
    · rintro H' ⟨cs', acc', vacc', s', ra', hl', h'⟩
      exact ⟨xs.length - (i + 1), by omega, by omega, rfl, cs', acc', vacc', s', ra', hl', by rw [e2]; exact h'⟩
    · intro x H3 hy
      obtain ⟨s3, r3⟩ := yi.yld i d e1 _ cs2 H2 x H3 s2 hy
      refine gk _ cs2 H3 _ (wipeD ρ vs) x d _ _ s3.self (reW.mono (s2.gr.trans s3.gr)) r3 wipe_wipe h2 fun σ4 ρ4 hw4 re4 h4 => ⟨hw4.trans rfl, ?_⟩
      refine ⟨_, cs2, ρ4, _, Z0, s3.self, re4, h4, fun H5 cs5 k s5 h5 => ?_, fun _ _ _ _ _ _ z => z⟩
      cases k with
      | false => exact iteF ⟨cs5, acc, vacc, s5.from_ (s2.gr.trans s3.gr), ra.mono (s3.gr.trans s5.gr), Nat.le_succ_of_le hla, h5.2 rfl⟩
      | true =>
        refine iteT ⟨_, cs5, ρ4, _, Z0, s5.self, re4.mono s5.gr, h5.1 rfl, fun H6 cs6 y dy s6 r6 h6 => ?_, fun _ _ _ _ _ _ z => z⟩
        have g6 := (s2.gr.trans s3.gr).trans (s5.gr.trans s6.gr)
        have s7 := (s6.from_ ((s2.gr.trans s3.gr).trans s5.gr))
        obtain ⟨s8, e8⟩ := s7.turn (o' := .lst (vacc ++ [y])) hFD
        refine ⟨vacc, s6.fr D _ upd_same, ?_, cs6, acc ++ [dy], vacc ++ [y], s8, ?_, by rw [List.length_append]; exact Nat.succ_le_succ hla, h6⟩
        · rw [ra.length]; exact Nat.lt_of_le_of_lt (Nat.le_trans hla hi) (Nat.lt_of_le_of_lt hlen (by decide))
        · rw [e8]
          exact (ra.mono (s3.gr.trans (s5.gr.trans s6.gr))).append (.cons r6 .nil)
variable {elt tg iter : Expr} {ifs : List Expr} {scope : Scope} {own : List (Str × Nat)} {pos : Pos} {wi : WI} {g : TG} {gd : WG} {wt : WT} {we : DL.WE}
theorem d_lc (hc : X.calm = true) (hN : X.N.Nodup) (hi : DI X W tg iter wi) (ok : BlkOk X.N X.env.scope scope own) (gk : GOk X.K g gd (own.map (·.2)))
    (hg : ∀ (s : Shared) (H : Hp) (C : Addr) (cl : List (Str × Addr)) (fp : List Addr), PG (X.blk s H scope (compEnvC scope cl C X.env) fp) tg g)
    (ht : ∀ (s : Shared) (H : Hp) (C : Addr) (cl : List (Str × Addr)) (fp : List Addr), PTs (X.blk s H scope (compEnvC scope cl C X.env) fp) ifs (lT X.K W0 wt))
    (he : ∀ (s : Shared) (H : Hp) (C : Addr) (cl : List (Str × Addr)) (fp : List Addr), DE (X.blk s H scope (compEnvC scope cl C X.env) fp) W0 elt we) (hs : ∀ x, foldedSetIterable iter X.env x = pure x := by intro _; rfl) :
    DE X W (.ListComp elt [⟨tg, iter, ifs, 0⟩] scope pos) (wComp wi gd wt we (own.map (·.2))) := PE.imp (pe_lc hc hN hi ok hg ht he hs) fun _ _ _ h => lc_ok gk h
theorem ds_setLc {i : Nat} {y : Str} {py spos : Pos} (hc : X.calm = true) (hN : X.N.Nodup) (hy : X.N[i]? = some y) (hyl : X.env.scope.names.lookup y = some .local)
    (hsw : swapsWith (.ListComp elt [⟨tg, iter, ifs, 0⟩] scope pos) (some (.Name y py)) spos.line X.env = pure true) (hi : DI X W tg iter wi) (ok : BlkOk X.N X.env.scope scope own) (gk : GOk X.K g gd (own.map (·.2)))
    (hg : ∀ (s : Shared) (H : Hp) (C : Addr) (cl : List (Str × Addr)) (fp : List Addr), PG (X.blk s H scope (compEnvC scope cl C X.env) fp) tg g)
    (ht : ∀ (s : Shared) (H : Hp) (C : Addr) (cl : List (Str × Addr)) (fp : List Addr), PTs (X.blk s H scope (compEnvC scope cl C X.env) fp) ifs (lT X.K W0 wt))
    (he : ∀ (s : Shared) (H : Hp) (C : Addr) (cl : List (Str × Addr)) (fp : List Addr), DE (X.blk s H scope (compEnvC scope cl C X.env) fp) W0 elt we) (hs : ∀ x, foldedSetIterable iter X.env x = pure x := by intro _; rfl) :
    DS X W (.Assign [.Name y py] (.ListComp elt [⟨tg, iter, ifs, 0⟩] scope pos) spos) (sAsg (wComp wi gd wt we (own.map (·.2))) (gN i)) :=
  PS.imp (ps_setLc hc hN hy hyl hsw hi ok hg ht he hs) fun E σ H h => by
    obtain ⟨F, cs, ρ, f, s, re, hw, pe⟩ := h
    have h2 : lE X.K W (wComp wi gd wt we (own.map (·.2))) σ H (fun x H1 => gName i x σ H1 E.nx) := ⟨F, cs, ρ, _, _, s, re, hw, fun H1 cs1 v d s1 r1 h1 => pe.nx H1 cs1 _ _ s1 ((re.mono s1.gr).set r1 i) h1, pe.px re⟩
    exact lc_ok gk h2
end
/-! going through -/
section
variable {ρ : DL.Env} {cs : Cs} {P : DP} {Z : XZ} {wa wb we : DL.WE} {w : WA} {wt : WT}
theorem r_isi {d : D} {n : String} {k : Bool} (e : isiD d n = some k) (h : P (.bl k) cs) : oIsi [d, .opq (.ty n)] cs P := by
  unfold oIsi; simp only [e]; exact h
theorem r_isiT {d : D} {n : String} (e : isiD d n = some true) (h : P (.bl true) cs) : oIsi [d, .opq (.ty n)] cs P := r_isi e h
theorem r_isiF {d : D} {n : String} (e : isiD d n = some false) (h : P (.bl false) cs) : oIsi [d, .opq (.ty n)] cs P := r_isi e h
theorem r_isiTT {d : D} {ts : List D} {t : String} {ns : List String} (e : tyS d = some t) (e2 : tyNames ts = some ns) (e3 : (ns.any fun n => isT t n) = true) (h : P (.bl true) cs) : oIsiT [d, .tup ts] cs P := by
  unfold oIsiT; simp only [e, e2, e3]; exact h
theorem r_isiTF {d : D} {ts : List D} {t : String} {ns : List String} (e : tyS d = some t) (e2 : tyNames ts = some ns) (e3 : (ns.any fun n => isT t n) = false) (h : P (.bl false) cs) : oIsiT [d, .tup ts] cs P := by
  unfold oIsiT; simp only [e, e2, e3]; exact h
theorem r_sum {xs : List D} {ns : List Int} (e : intsOf xs = some ns) (h : P (.int ns.sum) cs) : oSum [.lst xs] cs P := by
  unfold oSum; simp only [e]; exact h
theorem r_all {xs : List D} {ns : List Bool} (e : blsOf xs = some ns) (h : P (.bl (ns.all id)) cs) : oAll [.lst xs] cs P := by
  unfold oAll; simp only [e]; exact h
theorem r_tupleL {xs : List D} (h : P (.tup xs) cs) : oTuple [.lst xs] cs P := h
theorem r_tupleT {xs : List D} (h : P (.tup xs) cs) : oTuple [.tup xs] cs P := h
theorem r_catT {xs ys : List D} (hl : xs.length + ys.length ≤ 100000) (h : P (.tup (xs ++ ys)) cs) : oCatT (.tup xs) (.tup ys) cs P := ⟨hl, h⟩
theorem r_sl {o : D → Option Int → Option Int → Cs → DP → Prop} {wl wh : WO} (h : we ρ cs (fun x cs1 => wl ρ cs1 (fun l cs2 => wh ρ cs2 (fun u cs3 => o x l u cs3 P) Z) Z) Z) : wSl o we wl wh ρ cs P Z := h
theorem r_noPart {R : Option Int → Cs → Prop} (h : R none cs) : wNoPart ρ cs R Z := h
theorem r_part {R : Option Int → Cs → Prop} (h : we ρ cs (fun x cs1 => match x with | .int i => R (some i) cs1 | _ => False) Z) : wPart we ρ cs R Z := h
theorem r_slL {xs : List D} {lo hi : Option Int} (h : P (.lst (DL.cutD xs lo hi)) cs) : oSlL (.lst xs) lo hi cs P := h
theorem r_slT {xs : List D} {lo hi : Option Int} (h : P (.tup (DL.cutD xs lo hi)) cs) : oSlT (.tup xs) lo hi cs P := h
theorem r_zipL {xs ys : List D} {R : List D → Cs → Prop} (h : w ρ cs (fun ds cs1 => match ds with | [.lst xs, .lst ys] => R (List.zipWith (fun d e => D.tup [d, e]) xs ys) cs1 | [.tup xs, .tup ys] => R (List.zipWith (fun d e => D.tup [d, e]) xs ys) cs1 | _ => False) Z) : iZp w ρ cs R Z := h
theorem r_yes {R : Bool → Cs → Prop} (h : R true cs) : wYes ρ cs R Z := h
theorem r_comp {wi : WI} {g : WG} {vs : List Nat} (h : wi ρ cs (fun xs cs1 => xs.length ≤ 100000 ∧ compW g wt we xs (wipeD ρ vs) cs1 [] (fun ds cs2 => P (.lst ds) cs2)) Z) : wComp wi g wt we vs ρ cs P Z := h
/-- .. by an invariant: the place, what is made so far, the things that change -/
theorem r_compI {g : WG} {R : List D → Cs → Prop} (I : Nat → List D → Cs → Prop) : ∀ (xs acc : List D) (k : Nat) {cs : Cs}, I k acc cs →
    (∀ i d acc cs (N : List D → Cs → Prop), xs[i]? = some d → I (k + i) acc cs → (∀ acc' cs', I (k + i + 1) acc' cs' → N acc' cs') → g d ρ fun ρ1 => wt ρ1 cs (fun b cs1 => (b = true → we ρ1 cs1 (fun y cs2 => N (acc ++ [y]) cs2) Z0) ∧ (b = false → N acc cs1)) Z0) →
    (∀ acc cs, I (k + xs.length) acc cs → R acc cs) → compW g wt we xs ρ cs acc R
  | [], acc, k, cs, h0, hs, hd => hd acc cs h0
  | d :: r, acc, k, cs, h0, hs, hd => by
    refine hs 0 d acc cs (fun acc' cs' => compW g wt we r ρ cs' acc' R) rfl h0 fun acc' cs' h1 => r_compI I r acc' (k + 1) h1 (fun i d acc cs N e hi hn => ?_) (fun acc cs h => ?_)
    · have e1 : k + (i + 1) = k + 1 + i := by omega
      refine hs (i + 1) d acc cs N e (by rw [e1]; exact hi) fun acc' cs' hh => hn acc' cs' (by rw [← e1]; exact hh)
    · refine hd acc cs ?_
      have e1 : k + (d :: r).length = k + 1 + r.length := by rw [List.length_cons]; omega
      rw [e1]; exact h
theorem r_comp0 {g : WG} {R : List D → Cs → Prop} (I : Nat → List D → Cs → Prop) {xs : List D} (h0 : I 0 [] cs)
    (hs : ∀ i d acc cs (N : List D → Cs → Prop), xs[i]? = some d → I i acc cs → (∀ acc' cs', I (i + 1) acc' cs' → N acc' cs') → g d ρ fun ρ1 => wt ρ1 cs (fun b cs1 => (b = true → we ρ1 cs1 (fun y cs2 => N (acc ++ [y]) cs2) Z0) ∧ (b = false → N acc cs1)) Z0)
    (hd : ∀ acc cs, I xs.length acc cs → R acc cs) : compW g wt we xs ρ cs [] R :=
  r_compI I xs [] 0 h0 (fun i d acc cs N e hi hn => hs i d acc cs N e (by rw [Nat.zero_add] at hi; exact hi) (by rw [Nat.zero_add] at hn; exact hn)) (fun acc cs h => hd acc cs (by rw [Nat.zero_add] at h; exact h))
theorem take_more {α : Type} {l : List α} {i : Nat} {x : α} (h : l[i]? = some x) : l.take (i + 1) = l.take i ++ [x] := by
  obtain ⟨h1, h2⟩ := List.getElem?_eq_some_iff.mp h
  rw [List.take_succ, h]
  rfl
/-- each item that keeps p makes its f; nothing else changes -/
theorem r_compFM {g : WG} {R : List D → Cs → Prop} (p : D → Bool) (f : D → D) {xs : List D}
    (hs : ∀ d (N : DP) (N' : Cs → Prop), d ∈ xs → (p d = true → N (f d) cs) → (p d = false → N' cs) → g d ρ fun ρ1 => wt ρ1 cs (fun b cs1 => (b = true → we ρ1 cs1 N Z0) ∧ (b = false → N' cs1)) Z0)
    (hd : R ((xs.filter p).map f) cs) : compW g wt we xs ρ cs [] R := by
  refine r_comp0 (fun i acc cs' => acc = ((xs.take i).filter p).map f ∧ cs' = cs) ⟨rfl, rfl⟩ ?_ ?_
  · rintro i d acc cs' N e ⟨rfl, rfl⟩ hN
    refine hs d _ _ (List.mem_of_getElem? e) (fun h => hN _ _ ⟨?_, rfl⟩) (fun h => hN _ _ ⟨?_, rfl⟩)
    · rw [take_more e, List.filter_append, List.map_append, List.filter_cons_of_pos h]; rfl
    · rw [take_more e, List.filter_append, List.filter_cons_of_neg (by rw [h]; decide), List.filter_nil, List.append_nil]
  · rintro acc cs' ⟨rfl, rfl⟩
    rw [List.take_length]
    exact hd
theorem r_compM {g : WG} {R : List D → Cs → Prop} (f : D → D) {xs : List D}
    (hs : ∀ d (N : DP) (N' : Cs → Prop), d ∈ xs → N (f d) cs → g d ρ fun ρ1 => wt ρ1 cs (fun b cs1 => (b = true → we ρ1 cs1 N Z0) ∧ (b = false → N' cs1)) Z0)
    (hd : R (xs.map f) cs) : compW g wt we xs ρ cs [] R := by
  refine r_compFM (fun _ => true) f (fun d N N' h h1 h2 => hs d N N' h (h1 rfl)) ?_
  rw [List.filter_eq_self.mpr fun _ _ => rfl]
  exact hd
end
end DL

/-! DLB: bags, parts, boxes as data. -/
namespace DL
open PySem PySem.Spec PyProof.Rows L2
/-- what the bag holds: the script's copy, how many were taken, what is left of one, a number that goes round, a count -/
def BagOk (m : MO) : Prop := ∃ (cells : List Int) (k : Nat) (rest seed cnt : Int), m = .lst [.lst (cells.map D.int), .int (k : Int), .int rest, .int seed, .int cnt] ∧ 0 ≤ rest ∧ 0 ≤ seed ∧ seed < 2147483629
def BagIn (p : Addr) (cs : Cs) : Prop := ∃ b, look p cs = some b ∧ BagOk b
theorem BagIn.put {p : Addr} {cs : Cs} {b : MO} (h : BagIn p cs) (hb : BagOk b) : BagIn p (put p b cs) := by
  obtain ⟨b0, e, _⟩ := h
  exact ⟨b, look_put e, hb⟩
structure BagStep (p : Addr) (cs cs' : Cs) : Prop where
  bag : BagIn p cs'
  eq : ∃ b, cs' = put p b cs
theorem BagStep.trans {p : Addr} {c0 c1 c2 : Cs} (a : BagStep p c0 c1) (b : BagStep p c1 c2) : BagStep p c0 c2 := by
  obtain ⟨b1, e1⟩ := a.eq
  obtain ⟨b2, e2⟩ := b.eq
  exact ⟨b.bag, b2, by rw [e2, e1, put_put]⟩
theorem BagStep.refl {p : Addr} {cs : Cs} (h : BagIn p cs) : BagStep p cs cs := by
  obtain ⟨b, e, _⟩ := id h
  exact ⟨h, b, (put_look e).symm⟩
theorem BagStep.look {p q : Addr} {cs cs' : Cs} (a : BagStep p cs cs') (h : q ≠ p) : look q cs' = look q cs := by
  obtain ⟨b, e⟩ := a.eq
  rw [e, look_put_ne h]
mutual
/-- known data: nothing opaque, no dict with tuple keys -/
def knD : D → Bool
  | .tup xs => knL xs
  | .lst xs => knL xs
  | .opq _ => false
  | .dct _ => false
  | .ins _ _ => false
  | .xcp _ _ _ _ => false
  | _ => true
def knL : List D → Bool
  | [] => true
  | d :: ds => knD d && knL ds
end
theorem knL_mem : ∀ {ds : List D} {d : D}, knL ds = true → d ∈ ds → knD d = true
  | [], d, _, h => by cases h
  | e :: ds, d, hk, h => by
    simp only [knL, Bool.and_eq_true] at hk
    rcases List.mem_cons.mp h with z | z
    · rw [z]; exact hk.1
    · exact knL_mem hk.2 z
theorem knD_dR (r : Rat) : knD (dR r) = true := rfl
def wholeD : D → Bool
  | .int _ => true
  | _ => false
def partD : D → Bool
  | .tup [.int a, .int b] => decide (0 < b) && decide (Nat.gcd a.natAbs b.natAbs = 1)
  | _ => false
theorem partD_dR (r : Rat) : partD (dR r) = true := by
  have h1 := den_pos r
  have h2 : Nat.gcd r.num.natAbs (r.den : Int).natAbs = 1 := by rw [Int.natAbs_natCast]; exact r.reduced
  show (decide _ && decide _) = true
  rw [decide_eq_true h1, decide_eq_true h2]; rfl
theorem partD_len {xs : List D} (h : xs.length ≠ 2) : partD (.tup xs) = false := by
  unfold partD
  split
  · rename_i e
    cases e
    exact absurd rfl h
  · rfl
def dB (l t w h : Rat) : D := .tup [dR l, dR t, dR w, dR h]
def posD : D → Bool
  | .tup (.int a :: _) => decide (0 < a)
  | _ => false
def boxD : D → Bool
  | .tup [a, b, c, d] => partD a && (partD b && (partD c && (partD d && (posD c && posD d))))
  | _ => false
theorem posD_dR (r : Rat) : posD (dR r) = decide (0 < r) := by
  show decide (0 < r.num) = decide (0 < r)
  refine decide_eq_decide.mpr ?_
  rw [Rat.lt_iff]; simp
theorem boxD_dB (l t w h : Rat) : boxD (dB l t w h) = (decide (0 < w) && decide (0 < h)) := by
  unfold dB boxD
  simp only [partD_dR, posD_dR, Bool.true_and]
theorem boxD_len {xs : List D} (h : xs.length ≠ 4) : boxD (.tup xs) = false := by
  unfold boxD
  split
  · rename_i e
    cases e
    exact absurd rfl h
  · rfl
theorem partD_inv {d : D} (h : partD d = true) : ∃ r : Rat, d = dR r := by
  unfold partD at h
  split at h
  · rename_i a b
    rw [Bool.and_eq_true] at h
    have h1 := of_decide_eq_true h.1
    have h2 := of_decide_eq_true h.2
    refine ⟨⟨a, b.toNat, by omega, ?_⟩, ?_⟩
    · have e : b.toNat = b.natAbs := by omega
      rw [e]; exact h2
    · unfold dR
      have e : ((b.toNat : Nat) : Int) = b := by omega
      rw [e]
  · cases h
theorem p1000 {n : Nat} (h : n ≤ 20) : (1000 : Int) ^ n ≤ 1000 ^ 20 := by
  exact_mod_cast Nat.pow_le_pow_right (n := 1000) (by decide) h
theorem dR_int (n : Int) : D.tup [.int n, .int 1] = dR (n : Rat) := rfl
theorem Sz.ofInt {n : Int} {k : Nat} (h : n.natAbs < 2 ^ k) (hk : 1 < 2 ^ k) : Sz k (n : Rat) := ⟨h, hk⟩
theorem ofInt_pos {n : Int} (h : 0 < n) : (0 : Rat) < (n : Rat) := Rat.intCast_pos.mpr h
/-- a box of drawn numbers -/
structure BoxOk (l t w h : Rat) : Prop where
  sl : Sz 202 l
  st : Sz 202 t
  sw : Sz 202 w
  sh : Sz 202 h
  pw : 0 < w
  ph : 0 < h
/-! ### is None -/
def isNonD : D → Bool
  | .non => true
  | .opq v => decide (v = .non)
  | _ => false
def oIsN : DO2 := fun x y cs P => match y with
  | .non => P (.bl (isNonD x)) cs
  | _ => False
def oNotN : DO2 := fun x y cs P => match y with
  | .non => P (.bl (!isNonD x)) cs
  | _ => False
section
variable {X : Cx} {W : WX} {K : PySem.W.Frag} {pos : Pos} {a b : Expr} {wa wb : DL.WE}
theorem isNon_ok {G : Hp} {x : V} {d : D} (r : Rep K G x d) : decide (x = .non) = isNonD d := by
  cases r <;> first | rfl | simp [isNonD]
theorem adq_isN : Adq K (fun x y H Q => y = .non ∧ Q (.bl (decide (x = .non))) H) oIsN := fun F cs H x y dx dy P Q s rx ry ho pe => by
  cases dy <;> try exact ho.elim
  cases ry
  exact ⟨rfl, by rw [isNon_ok rx]; exact pe H cs _ _ s (.bl _) ho⟩
theorem adq_notN : Adq K (fun x y H Q => y = .non ∧ Q (.bl (!decide (x = .non))) H) oNotN := fun F cs H x y dx dy P Q s rx ry ho pe => by
  cases dy <;> try exact ho.elim
  cases ry
  exact ⟨rfl, by rw [isNon_ok rx]; exact pe H cs _ _ s (.bl _) ho⟩
theorem d_is (ha : DE X W a wa) (hb : DE X W b wb) : DE X W (.Compare a [.Is] [b] pos) (wOp oIsN wa wb) := d_cmp op_isN adq_isN ha hb (nomark _)
theorem d_isnot (ha : DE X W a wa) (hb : DE X W b wb) : DE X W (.Compare a [.IsNot] [b] pos) (wOp oNotN wa wb) := d_cmp op_notN adq_notN ha hb (nomark _)
theorem dt_is (ha : DE X W a wa) (hb : DE X W b wb) : DT X W (.Compare a [.Is] [b] pos) (wTest (wOp oIsN wa wb)) := dt_cmp op_isN adq_isN ha hb (nomark _)
theorem dt_isnot (ha : DE X W a wa) (hb : DE X W b wb) : DT X W (.Compare a [.IsNot] [b] pos) (wTest (wOp oNotN wa wb)) := dt_cmp op_notN adq_notN ha hb (nomark _)
end
section
variable {cs : Cs} {P : DP} {d : D}
theorem r_isN (h : P (.bl (isNonD d)) cs) : oIsN d .non cs P := h
theorem r_notN (h : P (.bl (!isNonD d)) cs) : oNotN d .non cs P := h
theorem r_eqBs {k : Bool} (h : P (.bl true) cs) : oEq (.bl k) (.bl k) cs P := r_eqB (by rw [beq_self_eq_true]; exact h)
theorem r_neBs {k : Bool} (h : P (.bl false) cs) : oNe (.bl k) (.bl k) cs P := r_neB (by rw [beq_self_eq_true]; exact h)
end
/-! ### is True, is False -/
def oIsB : DO2 := fun x y cs P => match x, y with
  | .bl a, .bl b => P (.bl (decide (a = b))) cs
  | _, _ => False
def oNotB : DO2 := fun x y cs P => match x, y with
  | .bl a, .bl b => P (.bl (!decide (a = b))) cs
  | _, _ => False
section
variable {X : Cx} {W : WX} {K : PySem.W.Frag} {pos : Pos} {a b : Expr} {wa wb : DL.WE}
theorem adq_isB : Adq K rIsB oIsB := fun F cs H x y dx dy P Q s rx ry ho pe => by
  unfold oIsB at ho
  split at ho
  · cases rx
    cases ry
    exact ⟨_, _, rfl, rfl, pe H cs _ _ s (.bl _) ho⟩
  · exact ho.elim
theorem adq_notB : Adq K rNotB oNotB := fun F cs H x y dx dy P Q s rx ry ho pe => by
  unfold oNotB at ho
  split at ho
  · cases rx
    cases ry
    exact ⟨_, _, rfl, rfl, pe H cs _ _ s (.bl _) ho⟩
  · exact ho.elim
theorem d_isB (ha : DE X W a wa) (hb : DE X W b wb) : DE X W (.Compare a [.Is] [b] pos) (wOp oIsB wa wb) := d_cmp op_isBl adq_isB ha hb (nomark _)
theorem d_isnotB (ha : DE X W a wa) (hb : DE X W b wb) : DE X W (.Compare a [.IsNot] [b] pos) (wOp oNotB wa wb) := d_cmp op_notBl adq_notB ha hb (nomark _)
theorem dt_isB (ha : DE X W a wa) (hb : DE X W b wb) : DT X W (.Compare a [.Is] [b] pos) (wTest (wOp oIsB wa wb)) := dt_cmp op_isBl adq_isB ha hb (nomark _)
theorem dt_isnotB (ha : DE X W a wa) (hb : DE X W b wb) : DT X W (.Compare a [.IsNot] [b] pos) (wTest (wOp oNotB wa wb)) := dt_cmp op_notBl adq_notB ha hb (nomark _)
end
section
variable {cs : Cs} {P : DP} {k l : Bool}
theorem r_isBs (h : P (.bl true) cs) : oIsB (.bl k) (.bl k) cs P := by
  show P (.bl (decide (k = k))) cs
  rw [decide_eq_true rfl]; exact h
theorem r_notBs (h : P (.bl false) cs) : oNotB (.bl k) (.bl k) cs P := by
  show P (.bl (!decide (k = k))) cs
  rw [decide_eq_true rfl]; exact h
theorem r_isB (h : P (.bl (decide (k = l))) cs) : oIsB (.bl k) (.bl l) cs P := h
theorem r_notB (h : P (.bl (!decide (k = l))) cs) : oNotB (.bl k) (.bl l) cs P := h
end
theorem atD_mem {xs : List D} {r : Int} (h0 : 0 ≤ r) (h1 : r < xs.length) : ∃ x, x ∈ xs ∧ atD xs r = some x := by
  obtain ⟨n, rfl⟩ := Int.eq_ofNat_of_zero_le h0
  have hr : n < xs.length := by omega
  exact ⟨xs[n], List.getElem_mem _, atI_nat (List.getElem?_eq_getElem hr)⟩
theorem one_of {n : Int} (h0 : 0 < n) (h1 : n < 2 ^ 40) : ∃ t : Rat, D.tup [.int 1, .int n] = dR t ∧ Sz 40 t ∧ 0 < t := by
  refine ⟨⟨1, n.toNat, by omega, by simp [Nat.Coprime]⟩, ?_, ⟨?_, ?_⟩, ?_⟩
  · unfold dR
    have e : ((n.toNat : Nat) : Int) = n := by omega
    show _ = D.tup [.int 1, .int ((n.toNat : Nat) : Int)]
    rw [e]
  · show (1 : Int).natAbs < _; decide
  · show n.toNat < 2 ^ 40; omega
  · rw [Rat.lt_iff]; show 0 * _ < (1 : Int) * _; simp
mutual
theorem eqD_refl : ∀ (d : D) (n : Nat), plD n d = true → eqD d d = true
  | .non, _, _ => rfl
  | .bl b, _, _ => by simp [eqD]
  | .int i, _, _ => by simp [eqD]
  | .str x, _, _ => by simp [eqD]
  | .tup xs, 0, h => by simp [plD] at h
  | .lst xs, 0, h => by simp [plD] at h
  | .tup xs, n + 1, h => by simp only [eqD]; exact eqL_refl xs n (plD_t h)
  | .lst xs, n + 1, h => by simp only [eqD]; exact eqL_refl xs n (plD_l h)
  | .dic _, n, h => by cases n <;> simp [plD] at h
  | .dct _, n, h => by cases n <;> simp [plD] at h
  | .ins _ _, n, h => by cases n <;> simp [plD] at h
  | .xcp _ _ _ _, n, h => by cases n <;> simp [plD] at h
  | .opq _, n, h => by cases n <;> simp [plD] at h
theorem eqL_refl : ∀ (d : List D) (n : Nat), plL n d = true → eqL d d = true
  | [], _, _ => rfl
  | d :: ds, n, h => by
    simp only [plL, Bool.and_eq_true] at h
    simp only [eqL, Bool.and_eq_true]
    exact ⟨eqD_refl d n h.1, eqL_refl ds n h.2⟩
end
mutual
theorem plD_mono : ∀ (d : D) {n m : Nat}, plD n d = true → n ≤ m → plD m d = true
  | .non, n, m, _, _ => by cases m <;> rfl
  | .bl b, n, m, _, _ => by cases m <;> rfl
  | .int i, n, m, _, _ => by cases m <;> rfl
  | .str x, n, m, _, _ => by cases m <;> rfl
  | .tup xs, 0, m, h, _ => by simp [plD] at h
  | .lst xs, 0, m, h, _ => by simp [plD] at h
  | .tup xs, n + 1, 0, h, l => by omega
  | .lst xs, n + 1, 0, h, l => by omega
  | .tup xs, n + 1, m + 1, h, l => plD_tI (plL_mono xs (plD_t h) (by omega)) (plD_tn h)
  | .lst xs, n + 1, m + 1, h, l => plD_lI (plL_mono xs (plD_l h) (by omega)) (plD_ln h)
  | .dic _, n, m, h, _ => by cases n <;> simp [plD] at h
  | .dct _, n, m, h, _ => by cases n <;> simp [plD] at h
  | .ins _ _, n, m, h, _ => by cases n <;> simp [plD] at h
  | .xcp _ _ _ _, n, m, h, _ => by cases n <;> simp [plD] at h
  | .opq _, n, m, h, _ => by cases n <;> simp [plD] at h
theorem plL_mono : ∀ (d : List D) {n m : Nat}, plL n d = true → n ≤ m → plL m d = true
  | [], _, _, _, _ => rfl
  | d :: ds, n, m, h, l => by
    simp only [plL, Bool.and_eq_true] at h ⊢
    exact ⟨plD_mono d h.1 l, plL_mono ds h.2 l⟩
end
theorem plL_mem : ∀ {ds : List D} {d : D} {n : Nat}, plL n ds = true → d ∈ ds → plD n d = true
  | [], d, _, _, h => by cases h
  | e :: ds, d, n, hk, h => by
    simp only [plL, Bool.and_eq_true] at hk
    rcases List.mem_cons.mp h with z | z
    · rw [z]; exact hk.1
    · exact plL_mem hk.2 z
theorem plL_of : ∀ {ds : List D} {n : Nat}, (∀ d ∈ ds, plD n d = true) → plL n ds = true
  | [], _, _ => rfl
  | d :: ds, n, h => by
    simp only [plL, Bool.and_eq_true]
    exact ⟨h d (List.mem_cons_self ..), plL_of fun e he => h e (List.mem_cons_of_mem _ he)⟩
theorem r_eqSelf {cs : Cs} {P : DP} {d : D} (hd : plD 20 d = true) (h : P (.bl true) cs) : oEq d d cs P := ⟨hd, hd, by rw [eqD_refl d 20 hd]; exact h⟩
theorem r_neSelf {cs : Cs} {P : DP} {d : D} (hd : plD 20 d = true) (h : P (.bl false) cs) : oNe d d cs P := ⟨hd, hd, by rw [eqD_refl d 20 hd]; exact h⟩
theorem vacF {P : Program} {w : World} {K : PySem.W.Frag} {mg : Str → Option Value} {base : Heap} {CX : CXT} {k : Nat} {f : Addr} {fd : FuncData} {ps : List Str} {n : Nat} : FnOk P w K mg base CX k f fd ps (spL K n fun _ _ _ _ => False) :=
  ⟨fun _ _ _ _ h => by obtain ⟨_, _, _, _, _, _, _, _, z, _⟩ := h; exact z.elim, fun _ _ _ _ _ _ _ _ _ _ _ _ _ h => by obtain ⟨_, _, _, _, _, _, _, _, z, _⟩ := h; exact z.elim⟩
end DL

/-! DLK: freezing, lending, keyword calls, chains, in, constants, three targets. -/
namespace DL
open PySem PySem.Spec PyProof.Rows L2
/-! ### freezing: what may change is from now on data -/
def del (p : Addr) : Cs → Cs
  | [] => []
  | (a, x) :: r => if a = p then r else (a, x) :: del p r
theorem mem_del {p a : Addr} {x : MO} : ∀ {cs : Cs}, (a, x) ∈ del p cs → (a, x) ∈ cs
  | [], h => h
  | (b, y) :: r, h => by
    unfold del at h
    split at h
    · exact List.mem_cons_of_mem _ h
    · rcases List.mem_cons.mp h with e | e
      · rw [e]; exact List.mem_cons_self ..
      · exact List.mem_cons_of_mem _ (mem_del e)
theorem adr_del {p a : Addr} {cs : Cs} (h : a ∈ adr (del p cs)) : a ∈ adr cs := by
  obtain ⟨⟨b, x⟩, hm, e⟩ := List.mem_map.mp h
  exact List.mem_map.mpr ⟨(b, x), mem_del hm, e⟩
theorem nd_del {p : Addr} : ∀ {cs : Cs}, (adr cs).Nodup → (adr (del p cs)).Nodup ∧ p ∉ adr (del p cs)
  | [], h => ⟨h, fun z => by cases z⟩
  | (a, x) :: r, h => by
    obtain ⟨n1, n2⟩ := List.nodup_cons.mp (show (a :: adr r).Nodup from h)
    obtain ⟨i1, i2⟩ := nd_del (p := p) n2
    unfold del
    split
    · rename_i e
      rw [← e]
      exact ⟨n2, n1⟩
    · rename_i e
      refine ⟨List.nodup_cons.mpr ⟨fun z => n1 (adr_del z), i1⟩, fun z => ?_⟩
      rcases List.mem_cons.mp (show p ∈ a :: adr (del p r) from z) with z | z
      · exact e z.symm
      · exact i2 z
theorem Sta.frz {K : PySem.W.Frag} {F G0 H : Hp} {cs : Cs} {p : Addr} {m : MO} (s : Sta K F G0 cs H) (hl : DL.look p cs = some m) : Sta K F G0 (del p cs) H ∧ Ex (pur F cs H) (pur F (del p cs) H) ∧ ∃ o, pur F (del p cs) H p = some o ∧ MoOk K (pur F (del p cs) H) m o := by
  have g : Ex (pur F cs H) (pur F (del p cs) H) := fun b u e => by
    obtain ⟨e1, e2, e3⟩ := pur_of e
    rw [pur_at e2 fun z => e3 (adr_del z)]; exact e1
  obtain ⟨n1, n2⟩ := nd_del (p := p) s.nd
  have hp : p ∈ adr cs := List.mem_map.mpr ⟨(p, m), look_mem hl, rfl⟩
  refine ⟨⟨s.fr, s.gr.trans g, n1, fun a h => s.ap a (adr_del h), fun a m' h => ?_, s.ft⟩, g, ?_⟩
  · obtain ⟨u, hu, r⟩ := s.ow a m' (mem_del h)
    exact ⟨u, hu, r.mono g⟩
  · obtain ⟨u, hu, r⟩ := s.ow p m (look_mem hl)
    exact ⟨u, by rw [pur_at (s.ap p hp) n2]; exact hu, r.mono g⟩
section
variable {X : Cx} {W : WX} {K : PySem.W.Frag} {σ : L2.St} {H : Hp} {pos : Pos} {a b c e : Expr} {es : List Expr} {wa wb wc we : DL.WE} {w wk : WA}
def wFrz (we : DL.WE) : DL.WE := fun ρ cs P Z => we ρ cs (fun d cs1 => ∃ p xs, d = .opq (.ref p) ∧ look p cs1 = some (.lst xs) ∧ P (.lst xs) (del p cs1)) Z
theorem d_frz (h : DE X W e we) : DE X W e (wFrz we) := PE.imp h fun σ H Q h => by
  obtain ⟨F, cs, ρ, P, Z, s, re, hw, pe, px⟩ := h
  refine ⟨F, cs, ρ, _, Z, s, re, hw, fun H1 cs1 v d s1 r1 h1 => ?_, px⟩
  obtain ⟨p, xs, rfl, hl, h1⟩ := h1
  cases r1
  obtain ⟨s2, g2, o, ho, m⟩ := s1.frz hl
  cases o <;> try exact m.elim
  exact pe H1 _ _ _ s2 (.lst (SqL.of ho) m) h1
/-! ### lending: an expression with a flat outcome takes what may change as data -/
mutual
inductive Lend (cs : Cs) : D → D → Prop
  | same (d : D) : Lend cs d d
  | at_ {p : Addr} {xs ys : List D} : look p cs = some (.lst xs) → LendL cs xs ys → Lend cs (.opq (.ref p)) (.lst ys)
  | tup {xs ys : List D} : LendL cs xs ys → Lend cs (.tup xs) (.tup ys)
  | lst {xs ys : List D} : LendL cs xs ys → Lend cs (.lst xs) (.lst ys)
inductive LendL (cs : Cs) : List D → List D → Prop
  | nil : LendL cs [] []
  | cons {x y : D} {xs ys : List D} : Lend cs x y → LendL cs xs ys → LendL cs (x :: xs) (y :: ys)
end
theorem LendL.self (cs : Cs) : ∀ xs, LendL cs xs xs
  | [] => .nil
  | x :: xs => .cons (.same x) (LendL.self cs xs)
inductive LendE (cs : Cs) : DL.Env → DL.Env → Prop
  | nil : LendE cs [] []
  | none {ρ ρ' : DL.Env} {x : Option D} : LendE cs ρ ρ' → LendE cs (x :: ρ) (none :: ρ')
  | some {ρ ρ' : DL.Env} {d d' : D} : Lend cs d d' → LendE cs ρ ρ' → LendE cs (some d :: ρ) (some d' :: ρ')
def flatD : D → Bool
  | .non => true
  | .bl _ => true
  | .int _ => true
  | .str _ => true
  | _ => false
theorem Rep.flat {G G' : Hp} {v : V} {d : D} (h : flatD d = true) (r : Rep K G v d) : Rep K G' v d := by
  cases r <;> first | (cases h; done) | exact .non | exact .bl _ | exact .int _ | exact .str _
section
variable {F G0 : Hp} {cs : Cs}
theorem pur_nil (s : Sta K F G0 cs H) : Ex (pur F cs H) (pur F [] H) := fun b u e => by
  obtain ⟨e1, e2, e3⟩ := pur_of e
  rw [pur_at e2 (fun z => by cases z)]; exact e1
theorem sta_nil (s : Sta K F G0 cs H) : Sta K F (pur F [] H) [] H := ⟨s.fr, Ex.refl _, List.nodup_nil, fun _ h => (nomatch h), fun _ _ h => (nomatch h), s.ft⟩
mutual
theorem Lend.rep (s : Sta K F G0 cs H) : ∀ {d d' : D} {v : V}, Lend cs d d' → Rep K (pur F cs H) v d → Rep K (pur F [] H) v d'
  | _, _, v, .same d, r => r.mono (pur_nil s)
  | _, _, v, .at_ (p := p) hl l, r => by
    cases r
    obtain ⟨o, e, m⟩ := s.look hl
    have hp : p ∈ adr cs := List.mem_map.mpr ⟨(p, _), look_mem hl, rfl⟩
    cases o <;> try exact m.elim
    exact .lst (SqL.of (by rw [pur_at (s.ap p hp) (fun z => by cases z)]; exact e)) (LendL.rep s l m)
  | _, _, v, .tup l, r => by
    cases r with
    | tup h r => exact .tup (ex_t (pur_nil s) h) (LendL.rep s l r)
  | _, _, v, .lst l, r => by
    cases r with
    | lst h r => exact .lst (ex_l (pur_nil s) h) (LendL.rep s l r)
theorem LendL.rep (s : Sta K F G0 cs H) : ∀ {d d' : List D} {v : List V}, LendL cs d d' → RepL K (pur F cs H) v d → RepL K (pur F [] H) v d'
  | _, _, _, .nil, r => by cases r; exact .nil
  | _, _, _, .cons l ls, r => by
    cases r with
    | cons r rs => exact .cons (Lend.rep s l r) (LendL.rep s ls rs)
end
end
theorem LendE.rep {F G0 : Hp} {cs : Cs} (s : Sta K F G0 cs H) : ∀ {ρ ρ' : DL.Env} {σ : L2.St}, LendE cs ρ ρ' → RepE K (pur F cs H) σ ρ → RepE K (pur F [] H) σ ρ'
  | _, _, _, .nil, r => by cases r; exact .nil
  | _, _, _, .none l, r => by
    cases r with
    | cons q r => exact .cons .skip (LendE.rep s l r)
  | _, _, _, .some h l, r => by
    cases r with
    | cons q r =>
      cases q with
      | held q => exact .cons (.held (Lend.rep s h q)) (LendE.rep s l r)
theorem sta_back {F G0 : Hp} {cs cs2 : Cs} {H2 : Hp} (s : Sta K F G0 cs H) (s2 : Sta K F (pur F [] H) cs2 H2) : Sta K F (pur F cs H) cs H2 := by
  have up : ∀ b u, F b = none → H b = some u → H2 b = some u := fun b u hF hb => by
    refine (pur_of (s2.gr b u ?_)).1
    rw [pur_at hF (fun z => by cases z)]; exact hb
  have g : Ex (pur F cs H) (pur F cs H2) := fun b u e => by
    obtain ⟨e1, e2, e3⟩ := pur_of e
    rw [pur_at e2 e3]; exact up b u e2 e1
  refine ⟨s2.fr, g, s.nd, s.ap, fun a m hm => ?_, s.ft⟩
  obtain ⟨u, hu, q⟩ := s.ow a m hm
  exact ⟨u, up a u (s.ap a (List.mem_map.mpr ⟨(a, m), hm, rfl⟩)) hu, q.mono g⟩
def wLend (we : DL.WE) : DL.WE := fun ρ cs P Z => ∃ ρ', LendE cs ρ ρ' ∧ we ρ' [] (fun d _ => flatD d = true ∧ P d cs) (fun _ _ => False)
theorem d_lend (h : DE X W e we) : DE X W e (wLend we) := PE.imp h fun σ H Q h => by
  obtain ⟨F, cs, ρ, P, Z, s, re, ⟨ρ', hl, hw⟩, pe, px⟩ := h
  refine ⟨F, [], ρ', _, _, sta_nil s, hl.rep s re, hw, fun H1 cs1 v d s1 r1 h1 => ?_, fun _ _ _ _ _ _ z => z.elim⟩
  exact pe H1 cs v d (sta_back s s1) (r1.flat h1.1) h1.2
/-! ### names of the module that hold a text or a number -/
variable {x : Str} {p : Pos}
theorem d_gstr {z : Str} (hg : Gl X x) (h : ∃ t, X.mg x = some (.str z t)) (hd : (x == ("__debug__" : Str)) = false := by decide) : DE X W (.Name x pos) (wC (.str z)) := by
  obtain ⟨t, h⟩ := h
  exact d_of (pe_glob (v := .str z) hg h ⟨_, rfl⟩ hd) fun _ => .str _
theorem d_gint {i : Int} (hg : Gl X x) (h : ∃ t, X.mg x = some (.int i t)) (hd : (x == ("__debug__" : Str)) = false := by decide) : DE X W (.Name x pos) (wC (.int i)) := by
  obtain ⟨t, h⟩ := h
  exact d_of (pe_glob (v := .int i) hg h ⟨_, rfl⟩ hd) fun _ => .int _
/-! ### a op b op' c -/
def wChain (o o' : DO2) (wa wb wc : DL.WE) : DL.WE := fun ρ cs P Z => wa ρ cs (fun x cs1 => wb ρ cs1 (fun y cs2 => o x y cs2 fun z cs3 => match z with
  | .bl k => (k = true → wc ρ cs3 (fun u cs4 => o' y u cs4 P) Z) ∧ (k = false → P (.bl false) cs3)
  | _ => False) Z) Z
theorem chain_ok {r r' : R2} {o o' : DO2} (adq : Adq K r o) (adq' : Adq K r' o') {Q : VK} : lE K W (wChain o o' wa wb wc) σ H Q → tChain r r' (lE K W wa) (lE K W wb) (lE K W wc) σ H Q := by
  rintro ⟨F, cs, ρ, P, Z, s, re, hw, pe, px⟩
  refine ⟨F, cs, ρ, _, Z, s, re, hw, fun H1 cs1 v d s1 r1 h1 => ?_, px⟩
  refine ⟨F, cs1, ρ, _, Z, s1.self, re.mono s1.gr, h1, fun H2 cs2 v2 d2 s2 r2 h2 => ?_, px.le s1.gr⟩
  refine adq F cs2 H2 v v2 d d2 _ _ s2.self (r1.mono s2.gr) r2 h2 fun H3 cs3 v3 d3 s3 r3 h3 => ?_
  have g2 := s1.gr.trans s2.gr
  have g3 := g2.trans s3.gr
  cases d3 <;> try exact h3.elim
  rename_i k
  cases r3
  refine ⟨k, rfl, ?_⟩
  cases k with
  | true =>
    refine iteT ⟨F, cs3, ρ, _, Z, s3.self, re.mono g3, h3.1 rfl, fun H4 cs4 v4 d4 s4 r4 h4 => ?_, px.le g3⟩
    exact adq' F cs4 H4 v2 v4 d2 d4 P Q s4.self ((r2.mono s3.gr).mono s4.gr) r4 h4 (pe.le (g3.trans s4.gr))
  | false => exact iteF (pe H3 cs3 _ _ (s3.from_ g2) (.bl _) (h3.2 rfl))
theorem d_chain {op op' : CmpOp} {r r' : R2} {o o' : DO2} (ho : OpR X (compareOp op) r) (ho' : OpR X (compareOp op') r') (adq : Adq X.K r o) (adq' : Adq X.K r' o') (ha : DE X W a wa) (hb : DE X W b wb) (hc : DE X W c wc)
    (hm : lastMarks [op, op'] [b, c] = false) : DE X W (.Compare a [op, op'] [b, c] pos) (wChain o o' wa wb wc) := PE.imp (pe_chain ho ho' ha hb hc hm) fun _ _ _ h => chain_ok adq adq' h
theorem dt_chain {op op' : CmpOp} {r r' : R2} {o o' : DO2} (ho : OpR X (compareOp op) r) (ho' : OpR X (compareOp op') r') (adq : Adq X.K r o) (adq' : Adq X.K r' o') (ha : DE X W a wa) (hb : DE X W b wb) (hc : DE X W c wc)
    (hm : lastMarks [op, op'] [b, c] = false) : DT X W (.Compare a [op, op'] [b, c] pos) (wTest (wChain o o' wa wb wc)) := PT.imp (pt_chain ho ho' ha hb hc hm) fun σ H Q h => by
  obtain ⟨F, cs, ρ, P, Z, s, re, hw, pe, px⟩ := h
  refine chain_ok (W := W) (Q := fun x H' => ∃ k, x = V.bl k ∧ Q k H') adq adq' ⟨F, cs, ρ, _, Z, s, re, hw, fun H1 cs1 v d s1 r1 h1 => ?_, px⟩
  obtain ⟨k, rfl, h⟩ := test_inv h1
  cases r1
  exact ⟨k, rfl, pe H1 cs1 k s1 h⟩
theorem d_chain_le_le (ha : DE X W a wa) (hb : DE X W b wb) (hc : DE X W c wc) (hm : lastMarks [.LtE, .LtE] [b, c] = false := by with_unfolding_all rfl) : DE X W (.Compare a [.LtE, .LtE] [b, c] pos) (wChain oLe oLe wa wb wc) := d_chain op_le op_le (adq_I0 fun _ _ _ => .bl _) (adq_I0 fun _ _ _ => .bl _) ha hb hc hm
theorem d_chain_lt_le (ha : DE X W a wa) (hb : DE X W b wb) (hc : DE X W c wc) (hm : lastMarks [.Lt, .LtE] [b, c] = false := by with_unfolding_all rfl) : DE X W (.Compare a [.Lt, .LtE] [b, c] pos) (wChain oLt oLe wa wb wc) := d_chain op_lt op_le (adq_I0 fun _ _ _ => .bl _) (adq_I0 fun _ _ _ => .bl _) ha hb hc hm
theorem d_chain_le_lt (ha : DE X W a wa) (hb : DE X W b wb) (hc : DE X W c wc) (hm : lastMarks [.LtE, .Lt] [b, c] = false := by with_unfolding_all rfl) : DE X W (.Compare a [.LtE, .Lt] [b, c] pos) (wChain oLe oLt wa wb wc) := d_chain op_le op_lt (adq_I0 fun _ _ _ => .bl _) (adq_I0 fun _ _ _ => .bl _) ha hb hc hm
theorem d_chain_lt_lt (ha : DE X W a wa) (hb : DE X W b wb) (hc : DE X W c wc) (hm : lastMarks [.Lt, .Lt] [b, c] = false := by with_unfolding_all rfl) : DE X W (.Compare a [.Lt, .Lt] [b, c] pos) (wChain oLt oLt wa wb wc) := d_chain op_lt op_lt (adq_I0 fun _ _ _ => .bl _) (adq_I0 fun _ _ _ => .bl _) ha hb hc hm
theorem dt_chain_le_le (ha : DE X W a wa) (hb : DE X W b wb) (hc : DE X W c wc) (hm : lastMarks [.LtE, .LtE] [b, c] = false := by with_unfolding_all rfl) : DT X W (.Compare a [.LtE, .LtE] [b, c] pos) (wTest (wChain oLe oLe wa wb wc)) := dt_chain op_le op_le (adq_I0 fun _ _ _ => .bl _) (adq_I0 fun _ _ _ => .bl _) ha hb hc hm
theorem dt_chain_lt_le (ha : DE X W a wa) (hb : DE X W b wb) (hc : DE X W c wc) (hm : lastMarks [.Lt, .LtE] [b, c] = false := by with_unfolding_all rfl) : DT X W (.Compare a [.Lt, .LtE] [b, c] pos) (wTest (wChain oLt oLe wa wb wc)) := dt_chain op_lt op_le (adq_I0 fun _ _ _ => .bl _) (adq_I0 fun _ _ _ => .bl _) ha hb hc hm
theorem dt_chain_le_lt (ha : DE X W a wa) (hb : DE X W b wb) (hc : DE X W c wc) (hm : lastMarks [.LtE, .Lt] [b, c] = false := by with_unfolding_all rfl) : DT X W (.Compare a [.LtE, .Lt] [b, c] pos) (wTest (wChain oLe oLt wa wb wc)) := dt_chain op_le op_lt (adq_I0 fun _ _ _ => .bl _) (adq_I0 fun _ _ _ => .bl _) ha hb hc hm
theorem dt_chain_lt_lt (ha : DE X W a wa) (hb : DE X W b wb) (hc : DE X W c wc) (hm : lastMarks [.Lt, .Lt] [b, c] = false := by with_unfolding_all rfl) : DT X W (.Compare a [.Lt, .Lt] [b, c] pos) (wTest (wChain oLt oLt wa wb wc)) := dt_chain op_lt op_lt (adq_I0 fun _ _ _ => .bl _) (adq_I0 fun _ _ _ => .bl _) ha hb hc hm
/-! ### x in a tuple or list of texts, of numbers -/
theorem RepL.strs {G : Hp} : ∀ {vs : List V} (ns : List Str), RepL K G vs (ns.map D.str) → vs = ns.map V.str
  | _, [], .nil => rfl
  | _, n :: ns, .cons h r => by
    cases h
    rw [List.map_cons, RepL.strs ns r]
def oIn : DO2 := fun x y cs P => (∃ (s : Str) (ss : List Str), x = .str s ∧ (y = .tup (ss.map D.str) ∨ y = .lst (ss.map D.str)) ∧ P (.bl (decide (s ∈ ss))) cs) ∨ (∃ (s : Int) (ss : List Int), x = .int s ∧ (y = .tup (ss.map D.int) ∨ y = .lst (ss.map D.int)) ∧ P (.bl (decide (s ∈ ss))) cs)
def oNotIn : DO2 := fun x y cs P => (∃ (s : Str) (ss : List Str), x = .str s ∧ (y = .tup (ss.map D.str) ∨ y = .lst (ss.map D.str)) ∧ P (.bl (!decide (s ∈ ss))) cs) ∨ (∃ (s : Int) (ss : List Int), x = .int s ∧ (y = .tup (ss.map D.int) ∨ y = .lst (ss.map D.int)) ∧ P (.bl (!decide (s ∈ ss))) cs)
theorem inV_str (s : Str) : ∀ ss : List Str, inV (.str s) (ss.map V.str) = decide (s ∈ ss)
  | [] => by simp [inV]
  | t :: ss => by
    have ih := inV_str s ss
    unfold inV at ih ⊢
    rw [List.map_cons, List.any_cons, ih]
    have e : eqV (.str t) (.str s) = decide (t = s) := by show (t == s) = _; rw [Bool.beq_eq_decide_eq]
    rw [e, ← Bool.decide_or]
    exact decide_eq_decide.mpr ⟨fun h => by rcases h with h | h <;> simp [h], fun h => by rcases List.mem_cons.mp h with h | h <;> simp [h]⟩
theorem inV_int (s : Int) : ∀ ss : List Int, inV (.int s) (ss.map V.int) = decide (s ∈ ss)
  | [] => by simp [inV]
  | t :: ss => by
    have ih := inV_int s ss
    unfold inV at ih ⊢
    rw [List.map_cons, List.any_cons, ih]
    have e : eqV (.int t) (.int s) = decide (t = s) := by show (t == s) = _; rw [Bool.beq_eq_decide_eq]
    rw [e, ← Bool.decide_or]
    exact decide_eq_decide.mpr ⟨fun h => by rcases h with h | h <;> simp [h], fun h => by rcases List.mem_cons.mp h with h | h <;> simp [h]⟩
theorem flat_strs : ∀ ss : List Str, (ss.map V.str).all flatV = true
  | [] => rfl
  | t :: ss => by rw [List.map_cons, List.all_cons, flat_strs ss]; rfl
theorem flat_ints : ∀ ss : List Int, (ss.map V.int).all flatV = true
  | [] => rfl
  | t :: ss => by rw [List.map_cons, List.all_cons, flat_ints ss]; rfl
theorem adq_in : Adq K (rIn K false) oIn := fun F cs H x y dx dy P Q s rx ry ho pe => by
  rcases ho with ⟨t, ss, rfl, h, q⟩ | ⟨t, ss, rfl, h, q⟩
  · cases rx
    rcases h with rfl | rfl
    · cases ry with
      | tup h r =>
        have e := r.strs ss
        subst e
        exact ⟨_, _, rfl, .inr (ex_t pur_le h), rfl, flat_strs ss, by rw [if_neg (by decide), inV_str]; exact pe H cs _ _ s (.bl _) q⟩
    · cases ry with
      | lst h r =>
        have e := r.strs ss
        subst e
        exact ⟨_, _, rfl, .inl (ex_l pur_le h), rfl, flat_strs ss, by rw [if_neg (by decide), inV_str]; exact pe H cs _ _ s (.bl _) q⟩
  · cases rx
    rcases h with rfl | rfl
    · cases ry with
      | tup h r =>
        have e := r.intsL ss
        subst e
        exact ⟨_, _, rfl, .inr (ex_t pur_le h), rfl, flat_ints ss, by rw [if_neg (by decide), inV_int]; exact pe H cs _ _ s (.bl _) q⟩
    · cases ry with
      | lst h r =>
        have e := r.intsL ss
        subst e
        exact ⟨_, _, rfl, .inl (ex_l pur_le h), rfl, flat_ints ss, by rw [if_neg (by decide), inV_int]; exact pe H cs _ _ s (.bl _) q⟩
theorem adq_notIn : Adq K (rIn K true) oNotIn := fun F cs H x y dx dy P Q s rx ry ho pe => by
  rcases ho with ⟨t, ss, rfl, h, q⟩ | ⟨t, ss, rfl, h, q⟩
  · cases rx
    rcases h with rfl | rfl
    · cases ry with
      | tup h r =>
        have e := r.strs ss
        subst e
        exact ⟨_, _, rfl, .inr (ex_t pur_le h), rfl, flat_strs ss, by rw [if_pos rfl, inV_str]; exact pe H cs _ _ s (.bl _) q⟩
    · cases ry with
      | lst h r =>
        have e := r.strs ss
        subst e
        exact ⟨_, _, rfl, .inl (ex_l pur_le h), rfl, flat_strs ss, by rw [if_pos rfl, inV_str]; exact pe H cs _ _ s (.bl _) q⟩
  · cases rx
    rcases h with rfl | rfl
    · cases ry with
      | tup h r =>
        have e := r.intsL ss
        subst e
        exact ⟨_, _, rfl, .inr (ex_t pur_le h), rfl, flat_ints ss, by rw [if_pos rfl, inV_int]; exact pe H cs _ _ s (.bl _) q⟩
    · cases ry with
      | lst h r =>
        have e := r.intsL ss
        subst e
        exact ⟨_, _, rfl, .inl (ex_l pur_le h), rfl, flat_ints ss, by rw [if_pos rfl, inV_int]; exact pe H cs _ _ s (.bl _) q⟩
theorem d_in (ha : DE X W a wa) (hb : DE X W b wb) (hm : behindInMarks .In b = false := by rfl) : DE X W (.Compare a [.In] [b] pos) (wOp oIn wa wb) := d_cmp op_in_seq adq_in ha hb hm
theorem d_notin (ha : DE X W a wa) (hb : DE X W b wb) (hm : behindInMarks .NotIn b = false := by rfl) : DE X W (.Compare a [.NotIn] [b] pos) (wOp oNotIn wa wb) := d_cmp op_notIn_seq adq_notIn ha hb hm
theorem dt_in (ha : DE X W a wa) (hb : DE X W b wb) (hm : behindInMarks .In b = false := by rfl) : DT X W (.Compare a [.In] [b] pos) (wTest (wOp oIn wa wb)) := dt_cmp op_in_seq adq_in ha hb hm
theorem dt_notin (ha : DE X W a wa) (hb : DE X W b wb) (hm : behindInMarks .NotIn b = false := by rfl) : DT X W (.Compare a [.NotIn] [b] pos) (wTest (wOp oNotIn wa wb)) := dt_cmp op_notIn_seq adq_notIn ha hb hm
/-! ### a, b, c = x, y, z -/
def sPar3 (i j l : Nat) (w : WA) : WS := fun f ρ cs => w ρ cs (fun ds cs1 => match ds with
  | [x, y, z] => f.nx (((ρ.set i (some x)).set j (some y)).set l (some z)) cs1
  | _ => False) (fun x cs1 => f.ex x ρ cs1)
theorem par3_inv {ds : List D} {g : D → D → D → Prop} (h : (match ds with | [x, y, z] => g x y z | _ => False)) : ∃ x y z, ds = [x, y, z] ∧ g x y z := by
  match ds, h with
  | [x, y, z], h => exact ⟨x, y, z, rfl, h⟩
theorem ds_par3 {i j l : Nat} {x y z : Str} {a b c : Expr} {w : WA} {px py pz pt : Pos} {kt k2 pt2} (hc : X.calm = true) (hN : X.N.Nodup) (hi : X.N[i]? = some x) (hj : X.N[j]? = some y) (hl : X.N[l]? = some z) (hij : i ≠ j) (hil : i ≠ l) (hjl : j ≠ l)
    (hx : X.env.scope.names.lookup x = some .local) (hy : X.env.scope.names.lookup y = some .local) (hz : X.env.scope.names.lookup z = some .local) (ha : DA X W [a, b, c] w)
    (hw : swappedStores [.Tuple [.Name x px, .Name y py, .Name z pz] kt pt] (.Tuple [a, b, c] k2 pt2) X.env = pure (some [x, y, z]) := by rfl)
    (hs : swapsWithSole [.Tuple [.Name x px, .Name y py, .Name z pz] kt pt] (.Tuple [a, b, c] k2 pt2) pos.line X.env = pure false := by rfl) :
    DS X W (.Assign [.Tuple [.Name x px, .Name y py, .Name z pz] kt pt] (.Tuple [a, b, c] k2 pt2) pos) (sPar3 i j l w) := PS.imp (ps_par3 hc hN hi hj hl hij hil hjl hx hy hz ha hw hs) fun E σ H h => by
  obtain ⟨F, cs, ρ, f, s, re, hw, pe⟩ := h
  refine ⟨F, cs, ρ, _, _, s, re, hw, fun H1 cs1 vs ds s1 r1 l1 h1 => ?_, pe.px re⟩
  obtain ⟨dx, dy, dz, rfl, h⟩ := par3_inv h1
  cases r1 with
  | cons r1 r2 =>
    cases r2 with
    | cons r2 r3 =>
      cases r3 with
      | cons r3 r4 =>
        cases r4
        exact ⟨_, _, _, rfl, pe.nx H1 cs1 _ _ s1 ((((re.mono s1.gr).set r1 i).set r2 j).set r3 l) h⟩
/-! ### f(e, .., k = v) -/
section
variable {CX : CXT} {k n : Nat} {f : Addr} {fd : FuncData} {ps ks : List Str} {sp : Sp} {E : L2.St → XK} {kws : List Keyword} {t tk : TA} {g : List Value → List Value → List Value} {gV : List V → List V → List V}
def tCallNS (n m : Nat) (sp : Sp) (gV : List V → List V → List V) (E : L2.St → XK) (t tk : TA) : TE := fun σ H Q => t σ H fun vs H1 => tk σ H1 fun zs H2 => vs.length = n ∧ zs.length = m ∧ sp (gV vs zs) H2 Q (E σ)
theorem pe_callNS (F : FnOk X.prog X.w X.K X.mg X.base CX k f fd ps sp) (hr : Room k X.A) (hg : Gl X x) (hm : X.mg x = some (.ref f)) (hk : PySem.W.keepIn X.K (.ref f) = true) (hb : KBn X.K fd ps n ks g gV) (hx : ∀ σ, PassesAt CX X σ (E σ))
    (ha : PA X (e :: es) t) (hkw : PK X kws tk) (hall : (backToKw pos (keywordEach kws X.env)).all (·.1.isSome) = true) (hks : (backToKw pos (keywordEach kws X.env)).filterMap (·.1) = ks)
    (hdb : (x == ("__debug__" : Str)) = false) (he : starEach (e :: es) X.env = (false, eval e X.env) :: starEach es X.env)
    (hpl : ((backTo pos (starEach (e :: es) X.env)).any (·.1) || (backToKw pos (keywordEach kws X.env)).any (·.1.isNone)) = false) :
    PE X (.Call (.Name x p) (e :: es) kws pos) (tCallNS n ks.length sp gV E t tk) := by
  refine ⟨fun pins s σ H Q I h => ?_⟩
  refine wpAny_Call_Name_kw (ld_glob I hg hm ?_ hdb)
  refine PySem.W.callWith_KW (h₀ := X.base) I.ok.mod.kin hk hall (thn (ha.run pos pins s σ H _ I h) fun us s1 ⟨vs, H1, I1, r, q⟩ => ?_) hpl he
  refine thn (hkw.run pos pins s1 σ H1 _ I1 q) fun ws s2 ⟨zs, H2, I2, rz, l1, l2, q2⟩ => ⟨I2.kIn, ?_⟩
  rw [hks]
  have r2 := hb.rel r rz
  refine wpAny_call (codeAny_mono (F.run X.A X.stack s2 H2 ⟨us, ks.zip ws⟩ (g us ws) (gV vs zs) Q (E σ) hr I2.env0 (hb.to s2 us ws I2.kIn (r.length.symm.trans l1) (rz.length.symm.trans l2)) r2 q2) fun r s' hq => ?_)
  cases r with
  | error e => exact hx σ pins H2 s2 e s' I2 hq
  | ok fl =>
    cases fl with
    | ret u => exact I2.after hq
    | next => exact False.elim hq
    | brk => exact False.elim hq
    | cont => exact False.elim hq
end
abbrev DK (X : Cx) (W : WX) (kws : List Keyword) (w : WA) : Prop := PK X kws (lA X.K W kws.length w)
theorem PK.imp {X : Cx} {e : List Keyword} {t t' : TA} (h : PK X e t) (i : ∀ σ H Q, t' σ H Q → t σ H Q) : PK X e t' := ⟨fun pos pins s σ H Q I q => h.run pos pins s σ H Q I (i σ H Q q)⟩
theorem dk_nil : DK X W [] wNil := PK.imp pk_nil fun σ H Q ⟨F, cs, ρ, P, Z, s, re, hw, pe, px⟩ => pe H cs [] [] s .nil rfl hw
theorem dk_cons {nm : Option Str} {kpos : Pos} {kws : List Keyword} (ha : DE X W e we) (hr : DK X W kws w) : DK X W (⟨nm, e, kpos⟩ :: kws) (wCons we w) := PK.imp (pk_cons ha hr) fun σ H Q h => by
  obtain ⟨F, cs, ρ, P, Z, s, re, hw, pe, px⟩ := h
  refine ⟨F, cs, ρ, _, Z, s, re, hw, fun H1 cs1 v d s1 r1 h1 => ?_, px⟩
  refine ⟨F, cs1, ρ, _, Z, s1.self, re.mono s1.gr, h1, fun H2 cs2 vs ds s2 r2 l2 h2 => ?_, px.le s1.gr⟩
  exact pe H2 cs2 _ _ (s2.from_ s1.gr) (.cons (r1.mono s2.gr) r2) (congrArg Nat.succ l2) h2
def wCallK (sp : DSp) (w wk : WA) : DL.WE := fun ρ cs P Z => w ρ cs (fun ds cs1 => wk ρ cs1 (fun zs cs2 => sp (ds ++ zs) cs2 P Z) Z) Z
/-- the keywords stand in the parameters' order behind the positional values -/
theorem d_callKw {k n m : Nat} {f : Addr} {fd : FuncData} {ps ks : List Str} {sp : DSp} {kws : List Keyword} (F : FnOk X.prog X.w X.K X.mg X.base (L2.CX X.prog X.w) k f fd ps (spL X.K m sp)) (hr : Room k X.A) (hg : Gl X x) (hm : X.mg x = some (.ref f)) (hk : PySem.W.keepIn X.K (.ref f) = true)
    (hb : KBn X.K fd ps n ks (fun us ws => us ++ ws) (fun vs zs => vs ++ zs)) (tk : Takes X W) (ha : DA X W (e :: es) w) (hkw : DK X W kws wk)
    (hn : (e :: es).length = n := by rfl) (hn2 : kws.length = ks.length := by rfl) (hn3 : n + ks.length = m := by rfl) (hall : (backToKw pos (keywordEach kws X.env)).all (·.1.isSome) = true := by rfl) (hks : (backToKw pos (keywordEach kws X.env)).filterMap (·.1) = ks := by rfl)
    (hdb : (x == ("__debug__" : Str)) = false := by decide) (he : starEach (e :: es) X.env = (false, eval e X.env) :: starEach es X.env := by rfl)
    (hpl : ((backTo pos (starEach (e :: es) X.env)).any (·.1) || (backToKw pos (keywordEach kws X.env)).any (·.1.isNone)) = false := by rfl) :
    DE X W (.Call (.Name x p) (e :: es) kws pos) (wCallK sp w wk) :=
  PE.imp (pe_callNS (E := L2.WE W) F hr hg hm hk hb (fun σ => passAt tk σ) ha hkw hall hks hdb he hpl) fun σ H Q h => by
    obtain ⟨F, cs, ρ, P, Z, s, re, hw, pe, px⟩ := h
    refine ⟨F, cs, ρ, _, Z, s, re, hw, fun H1 cs1 vs ds s1 r1 l1 h1 => ?_, px⟩
    refine ⟨F, cs1, ρ, _, Z, s1.self, re.mono s1.gr, h1, fun H2 cs2 zs es s2 r2 l2 h2 => ⟨by rw [r1.length, l1]; exact hn, by rw [r2.length, l2]; exact hn2, ?_⟩, px.le s1.gr⟩
    have g := s1.gr.trans s2.gr
    exact ⟨F, cs2, _, P, Z, s2.self, (r1.mono s2.gr).append r2, by rw [List.length_append, l1, l2, hn, hn2]; exact hn3, h2, pe.le g, px.le g⟩
/-- a call that leaves the defaults dds lacking -/
theorem d_callD {k n : Nat} {f : Addr} {fd : FuncData} {ps : List Str} {sp : DSp} {dvs : List V} {dds : List D} (F : FnOk X.prog X.w X.K X.mg X.base (L2.CX X.prog X.w) k f fd ps (spL X.K n sp)) (hr : Room k X.A) (hg : Gl X x) (hm : X.mg x = some (.ref f)) (hk : PySem.W.keepIn X.K (.ref f) = true)
    (hb : ∃ ds, Vals dvs ds ∧ Binds X.K fd ps ds) (hdd : ∀ G, RepL X.K G dvs dds) (tk : Takes X W)
    (ha : DA X W (e :: es) w) (hn : (e :: es).length + dds.length = n := by rfl) (hdb : (x == ("__debug__" : Str)) = false := by decide) (he : starEach (e :: es) X.env = (false, eval e X.env) :: starEach es X.env := by rfl) (hpl : (backTo pos (starEach es X.env)).any (·.1) = false := by rfl) :
    DE X W (.Call (.Name x p) (e :: es) [] pos) (wCall sp dds w) := by
  obtain ⟨ds, h1, h2⟩ := hb
  exact d_call F hr hg hm hk h2 h1 hdd tk ha hn hdb he hpl
end
/-! ### lists or tuples: walked, summed -/
section
variable {X : Cx} {W : WX} {K : PySem.W.Frag} {e tg : Expr} {we : DL.WE}
def iAnyV (K : PySem.W.Frag) (tl : TE) : TI := fun σ H R => tl σ H fun x H1 => ∃ a, x = .ref a ∧ ((∃ xs, SqL K H1 a xs) ∧ R (Itl K a) H1 ∨ (∃ xs, SqT K H1 a xs) ∧ R (Itt K a) H1)
theorem pi_any {l : Expr} {tl : TE} (hl : PE X l tl) : PI X tg l (iAnyV X.K tl) := by
  refine ⟨fun pins s σ H R I h => ?_⟩
  refine thn (hl.run pins s σ H _ I h) fun v s1 ⟨x, H1, I1, r1, q1⟩ => ?_
  obtain ⟨a, e, q⟩ := q1
  subst e
  cases r1
  rcases q with ⟨⟨xs, hq⟩, q⟩ | ⟨⟨xs, hq⟩, q⟩
  · obtain ⟨its, rv, p, hz⟩ := I1.list hq
    refine wpAny_pyIter_list p.isList ?_
    refine ⟨s1.heap.objs.size, [s1.heap.objs.size], _, _, H1, rfl, I1.kept (t' := s1.toks) fun b o e => Heap.get?_push_of_some _ e, turn_list a _, ⟨_, Heap.get?_push_size _ rfl, rfl, rfl⟩, fun b hb => ?_, q⟩
    have e : b = s1.heap.objs.size := by simpa using hb
    subst e
    exact I1.fpOk (Nat.le_refl _) (I1.hok.fresh (Nat.le_refl _))
  · obtain ⟨its, rv, p, hz⟩ := I1.tuple hq
    refine wpAny_pyIter_tuple (show s1.heap.IsTuple a its.toArray from p) ?_
    refine ⟨s1.heap.objs.size, [s1.heap.objs.size], _, _, H1, rfl, I1.kept (t' := s1.toks) fun b o e => Heap.get?_push_of_some _ e, turn_tuple a _, ⟨_, Heap.get?_push_size _ rfl, rfl, rfl⟩, fun b hb => ?_, q⟩
    have e : b = s1.heap.objs.size := by simpa using hb
    subst e
    exact I1.fpOk (Nat.le_refl _) (I1.hok.fresh (Nat.le_refl _))
def iAnyD (we : DL.WE) : WI := fun ρ cs P Z => we ρ cs (fun d cs1 => match d with
  | .lst xs => P xs cs1
  | .tup xs => P xs cs1
  | _ => False) Z
theorem di_any (h : DE X W e we) : DI X W tg e (iAnyD we) := PI.imp (pi_any h) fun σ H R hq => by
  obtain ⟨F, cs, ρ, P, Z, s, re, hw, pe, px⟩ := hq
  refine ⟨F, cs, ρ, _, Z, s, re, hw, fun H1 cs1 v d s1 r1 h1 => ?_, px⟩
  cases d <;> try exact h1.elim
  · cases r1 with
    | tup h r => exact ⟨_, rfl, .inr ⟨⟨_, ex_t pur_le h⟩, pe H1 cs1 _ _ s1 (yi_tup h r) h1⟩⟩
  · cases r1 with
    | lst h r => exact ⟨_, rfl, .inl ⟨⟨_, ex_l pur_le h⟩, pe H1 cs1 _ _ s1 (yi_list h r) h1⟩⟩
theorem sum_tupG {prog : Program} {w : World} {A : Around} {E : Value → Shared → Prop} {s : Shared} {l : Addr} {xs : Array (Int × Tok)} {Q : Value → Shared → Prop} (hh : A.handled = none) (hT : s.heap.IsTuple l (intItems xs))
    (h : ∀ h' tk t', (∀ b o, s.heap.get? b = some o → h'.get? b = some o) → Q (.int (preSum (numAt xs) xs.size) t') { s with heap := h', toks := tk }) :
    wpAny (model prog w) A (call (.builtin "sum") [.ref l]) Q E s := by
  have hlt : l < s.heap.objs.size := by obtain ⟨_, e, _⟩ := hT; exact Heap.lt_size e
  refine call_sum_walkG (wpAny_pyIter_tuple hT ?_)
  refine ⟨_, [_, l], [_], _, _, _, numAt xs, rfl, Walks.tuple (A := A.in1) hh _ l (Nat.ne_of_lt hlt) (intItems xs), ⟨⟨_, Heap.get?_push_size _ rfl, rfl, rfl⟩, hT.push _⟩, fun c hc => ?_, (fun _ _ => intItems_at), fun h' tk t' hk => ?_⟩
  · show c < (s.heap.push _).objs.size
    rw [Heap.size_push]
    rcases List.mem_cons.mp hc with rfl | hc
    · exact Nat.lt_succ_self _
    · rw [List.mem_singleton.mp hc]; exact Nat.lt_succ_of_lt hlt
  · have := h h' tk t' (fun b o e => by
      refine hk b o (fun hm => ?_) (Heap.get?_push_of_some _ e)
      exact absurd ((List.mem_singleton.mp hm) ▸ Heap.lt_size e) (Nat.lt_irrefl _))
    simpa [intItems] using this
def rSumA (K : PySem.W.Frag) : List V → Hp → VK → Prop := fun vs H Q => ∃ (a : Addr) (ns : List Int), vs = [V.ref a] ∧ (SqL K H a (ns.map V.int) ∨ SqT K H a (ns.map V.int)) ∧ Q (.int ns.sum) H
theorem cr_sumA (hc : X.calm = true) : CallR X (.builtin "sum") (rSumA X.K) := by
  intro pins s σ H vs us Q I r h
  obtain ⟨a, ns, rfl, hs, q⟩ := h
  rw [Vals.ref1 r]
  rcases hs with hs | hs
  · obtain ⟨its, rv, hl, _⟩ := I.list hs
    exact sum_raw (I.ok.hd hc) hl.isList rv.ints fun h' tk t' hk => ⟨.int _, H, I.kept hk, ⟨_, rfl⟩, q⟩
  · obtain ⟨its, rv, hl, _⟩ := I.tuple hs
    have hi := rv.ints
    obtain ⟨xs, e⟩ := hi.allInts.items
    have hn : numsOf (intItems xs).toList = ns := by rw [← e]; exact hi.numsOf
    rw [nums_intItems] at hn
    have hl' : s.heap.IsTuple a its.toArray := hl
    rw [e] at hl'
    refine sum_tupG (I.ok.hd hc) hl' fun h' tk t' hk => ?_
    rw [preSum_eq, List.take_of_length_le (by simp), hn]
    exact ⟨.int _, H, I.kept hk, ⟨_, rfl⟩, q⟩
def oSumA : DOn := fun ds cs P => ∃ ns : List Int, (ds = [.lst (ns.map D.int)] ∨ ds = [.tup (ns.map D.int)]) ∧ P (.int ns.sum) cs
theorem adq_sumA : AdqN K (rSumA K) oSumA := fun F cs H xs ds P Q s r ho pe => by
  obtain ⟨ns, h, q⟩ := ho
  rcases h with rfl | rfl
  · cases r with
    | cons r1 r2 =>
      cases r2
      cases r1 with
      | lst h r =>
        have e2 := RepL.intsL ns r
        subst e2
        exact ⟨_, ns, rfl, .inl (ex_l pur_le h), pe H cs _ _ s (.int _) q⟩
  · cases r with
    | cons r1 r2 =>
      cases r2
      cases r1 with
      | tup h r =>
        have e2 := RepL.intsL ns r
        subst e2
        exact ⟨_, ns, rfl, .inr (ex_t pur_le h), pe H cs _ _ s (.int _) q⟩
end
/-! ### rules -/
section
variable {ρ : DL.Env} {cs : Cs} {P : DP} {Z : XZ} {wa wb wc we : DL.WE} {w wk : WA} {d : D} {p : Addr} {xs : List D} {f : Fin}
theorem look_hd {m : MO} : look p ((p, m) :: cs) = some m := by unfold look; rw [if_pos rfl]
theorem put_hd {m m' : MO} : put p m' ((p, m) :: cs) = (p, m') :: cs := by unfold put; rw [if_pos rfl]
theorem del_hd {m : MO} : del p ((p, m) :: cs) = cs := by unfold del; rw [if_pos rfl]
theorem r_frz (h : we ρ cs (fun d cs1 => ∃ p xs, d = .opq (.ref p) ∧ look p cs1 = some (.lst xs) ∧ P (.lst xs) (del p cs1)) Z) : wFrz we ρ cs P Z := h
theorem r_frzH (h : P (.lst xs) cs) : ∃ q ys, D.opq (.ref p) = .opq (.ref q) ∧ look q ((p, MO.lst xs) :: cs) = some (.lst ys) ∧ P (.lst ys) (del q ((p, MO.lst xs) :: cs)) := ⟨p, xs, rfl, look_hd, by rw [del_hd]; exact h⟩
theorem r_appendH (hz : xs.length < 100000) (h : P .non ((p, .lst (xs ++ [d])) :: cs)) : oAppend (.opq (.ref p)) [d] ((p, .lst xs) :: cs) P := r_append look_hd hz (by rw [put_hd]; exact h)
theorem r_popH (e : xs[xs.length - 1]? = some d) (h : P d ((p, .lst xs.dropLast) :: cs)) : oPop (.opq (.ref p)) [] ((p, .lst xs) :: cs) P := by
  unfold oPop
  simp only [look_hd, e, put_hd]
  exact h
theorem BagIn.cons {q : Addr} {m : MO} (h : BagIn p cs) (hq : q ∉ adr cs) : BagIn p ((q, m) :: cs) := by
  obtain ⟨b, e, hb⟩ := h
  refine ⟨b, ?_, hb⟩
  unfold look
  rw [if_neg fun z => hq ?_]
  · exact e
  · rw [z]; exact List.mem_map.mpr ⟨(p, b), look_mem e, rfl⟩
theorem r_lend (h : ∃ ρ', LendE cs ρ ρ' ∧ we ρ' [] (fun d _ => flatD d = true ∧ P d cs) (fun _ _ => False)) : wLend we ρ cs P Z := h
theorem r_isMH {R : Prop} (h : R) : isL (.opq (.ref p)) ((p, .lst xs) :: cs) ∧ R := r_isM look_hd h
theorem r_lstM (h : w ρ cs (fun ds cs1 => ∀ p, p ∉ adr cs1 → P (.opq (.ref p)) ((p, .lst ds) :: cs1)) Z) : wLstM w ρ cs P Z := h
theorem r_chain {o o' : DO2} (h : wa ρ cs (fun x cs1 => wb ρ cs1 (fun y cs2 => o x y cs2 fun z cs3 => match z with
  | .bl k => (k = true → wc ρ cs3 (fun u cs4 => o' y u cs4 P) Z) ∧ (k = false → P (.bl false) cs3)
  | _ => False) Z) Z) : wChain o o' wa wb wc ρ cs P Z := h
theorem r_par3 {i j l : Nat} (h : w ρ cs (fun ds cs1 => match ds with
  | [x, y, z] => f.nx (((ρ.set i (some x)).set j (some y)).set l (some z)) cs1
  | _ => False) (fun x cs1 => f.ex x ρ cs1)) : sPar3 i j l w f ρ cs := h
theorem r_callK {sp : DSp} (h : w ρ cs (fun ds cs1 => wk ρ cs1 (fun zs cs2 => sp (ds ++ zs) cs2 P Z) Z) Z) : wCallK sp w wk ρ cs P Z := h
theorem r_anyI {R : List D → Cs → Prop} (h : we ρ cs (fun d cs1 => match d with | .lst xs => R xs cs1 | .tup xs => R xs cs1 | _ => False) Z) : iAnyD we ρ cs R Z := h
theorem r_callD {sp : DSp} {dds : List D} (h : w ρ cs (fun ds cs1 => sp (ds ++ dds) cs1 P Z) Z) : wCall sp dds w ρ cs P Z := h
end
end DL

/-! DLW: boxes, weights, sides, splits, as plain mathematics. -/
namespace DL
open PySem L2
structure Bx where
  l : Rat
  t : Rat
  w : Rat
  h : Rat
def Bx.d (b : Bx) : D := dB b.l b.t b.w b.h
structure Bx.Sz (b : Bx) (n : Nat) : Prop where
  l : DL.Sz n b.l
  t : DL.Sz n b.t
  w : DL.Sz n b.w
  h : DL.Sz n b.h
structure Bx.Pos (b : Bx) : Prop where
  w : 0 < b.w
  h : 0 < b.h
/-- weights that may be shared by -/
structure WOk (ws : List Int) : Prop where
  l0 : 1 ≤ ws.length
  l1 : ws.length ≤ 12
  pos : ∀ w ∈ ws, 1 ≤ w
  sum : ws.sum < 2 ^ 23
/-- weights as the package takes them -/
structure WtOk (ws : List Int) : Prop where
  l0 : 1 ≤ ws.length
  l1 : ws.length ≤ 12
  rg : ∀ w ∈ ws, 1 ≤ w ∧ w ≤ 400000
theorem sum_le {k : Int} : ∀ {ws : List Int}, (∀ w ∈ ws, w ≤ k) → ws.sum ≤ k * ws.length
  | [], _ => by simp
  | w :: ws, h => by
    have h1 := h w (List.mem_cons_self ..)
    have h2 := sum_le fun x hx => h x (List.mem_cons_of_mem _ hx)
    rw [List.sum_cons, List.length_cons, Int.natCast_add, Int.mul_add]
    omega
theorem len_le_sum : ∀ {ws : List Int}, (∀ w ∈ ws, 1 ≤ w) → (ws.length : Int) ≤ ws.sum
  | [], _ => by simp
  | w :: ws, h => by
    have h1 := h w (List.mem_cons_self ..)
    have h2 := len_le_sum fun x hx => h x (List.mem_cons_of_mem _ hx)
    rw [List.sum_cons, List.length_cons, Int.natCast_add]
    omega
theorem WtOk.wok {ws : List Int} (h : WtOk ws) : WOk ws := by
  refine ⟨h.l0, h.l1, fun w hw => (h.rg w hw).1, ?_⟩
  have := sum_le fun w hw => (h.rg w hw).2
  have := h.l1
  omega
theorem WOk.sum_pos {ws : List Int} (h : WOk ws) : 0 < ws.sum := by
  have := len_le_sum h.pos
  have := h.l0
  omega
def preS (ws : List Int) (i : Nat) : Int := (ws.take i).sum
theorem preS_succ {ws : List Int} {i : Nat} {w : Int} (h : ws[i]? = some w) : preS ws (i + 1) = preS ws i + w := by
  unfold preS
  rw [take_more h, List.sum_append]
  simp
theorem preS_zero (ws : List Int) : preS ws 0 = 0 := by simp [preS]
theorem preS_len (ws : List Int) : preS ws ws.length = ws.sum := by simp [preS]
theorem preS_nonneg {ws : List Int} (h : ∀ w ∈ ws, 1 ≤ w) (i : Nat) : 0 ≤ preS ws i := by
  have := len_le_sum (ws := ws.take i) fun w hw => h w (List.mem_of_mem_take hw)
  unfold preS
  omega
theorem preS_le {ws : List Int} (h : ∀ w ∈ ws, 1 ≤ w) (i : Nat) : preS ws i ≤ ws.sum := by
  have h1 : (ws.take i ++ ws.drop i).sum = ws.sum := by rw [List.take_append_drop]
  have h2 := len_le_sum (ws := ws.drop i) fun w hw => h w (List.mem_of_mem_drop hw)
  rw [List.sum_append] at h1
  unfold preS
  omega
theorem mem_le_sum {ws : List Int} (h : ∀ w ∈ ws, 1 ≤ w) {i : Nat} {w : Int} (hw : ws[i]? = some w) : w ≤ ws.sum := by
  have h1 := preS_succ hw
  have h2 := preS_le h (i + 1)
  have h3 := preS_nonneg h i
  omega
theorem Sz.frac {a b : Int} (h0 : 0 ≤ a) (h1 : a < 2 ^ 23) (h2 : 0 < b) (h3 : b < 2 ^ 23) : Sz 23 (Rat.divInt a b) := Sz.divInt (n := 23) (by omega) (by omega) (by omega) (Nat.le_refl _)
theorem divInt_plus {a b c : Int} (h : c ≠ 0) : Rat.divInt (a + b) c = Rat.divInt a c + Rat.divInt b c := by
  rw [Rat.divInt_eq_div, Rat.divInt_eq_div, Rat.divInt_eq_div, Rat.intCast_add, Rat.div_def, Rat.div_def, Rat.div_def, Rat.add_mul]
/-- what stands at a share of a box, down or across -/
def cutB (b : Bx) (dn : Bool) (begin share : Rat) : Bx := if dn then ⟨b.l, b.t + b.h * begin, b.w, b.h * share⟩ else ⟨b.l + b.w * begin, b.t, b.w * share, b.h⟩
def splitAt_ (b : Bx) (ws : List Int) (dn : Bool) (i : Nat) : Bx := cutB b dn (Rat.divInt (preS ws i) ws.sum) (Rat.divInt (ws.getD i 0) ws.sum)
def splitB (b : Bx) (ws : List Int) (dn : Bool) : List Bx := (List.range ws.length).map (splitAt_ b ws dn)
def sideD (dn : Bool) : D := .str (if dn then "down" else "across")
theorem step_rat (x y : Rat) {p w c : Int} (h : c ≠ 0) : x + y * Rat.divInt p c + y * Rat.divInt w c = x + y * Rat.divInt (p + w) c := by
  rw [divInt_plus h, Rat.mul_add, Rat.add_assoc]
theorem get_map_int {ws : List Int} {i : Nat} {d : D} (h : (ws.map D.int)[i]? = some d) : ∃ w, ws[i]? = some w ∧ d = .int w := by
  rw [List.getElem?_map] at h
  cases e : ws[i]? with
  | none => rw [e] at h; cases h
  | some w => rw [e] at h; cases h; exact ⟨w, rfl, rfl⟩
theorem cutB_sz {b : Bx} {n : Nat} (hb : b.Sz n) {x y : Rat} (hx : DL.Sz 23 x) (hy : DL.Sz 23 y) (dn : Bool) : (cutB b dn x y).Sz (n + n + 24) := by
  have big : ∀ {r : Rat} {k : Nat}, DL.Sz k r → k ≤ n + n + 24 → DL.Sz (n + n + 24) r := fun h l => h.mono l
  unfold cutB
  cases dn with
  | true => exact ⟨big hb.l (by omega), big (hb.t.add (hb.h.mul hx)) (by omega), big hb.w (by omega), big (hb.h.mul hy) (by omega)⟩
  | false => exact ⟨big (hb.l.add (hb.w.mul hx)) (by omega), big hb.t (by omega), big (hb.w.mul hy) (by omega), big hb.h (by omega)⟩
theorem splitAt_sz {b : Bx} {n : Nat} (hb : b.Sz n) {ws : List Int} (hw : WOk ws) (dn : Bool) {i : Nat} (hi : i < ws.length) : (splitAt_ b ws dn i).Sz (n + n + 24) := by
  have e : ws[i]? = some (ws.getD i 0) := by rw [List.getD_eq_getElem?_getD, List.getElem?_eq_getElem hi]; rfl
  have h1 := preS_nonneg hw.pos i
  have h2 := preS_le hw.pos i
  have h3 := hw.sum
  have h4 := hw.sum_pos
  have h5 := mem_le_sum hw.pos e
  have h6 := hw.pos _ (List.mem_of_getElem? e)
  exact cutB_sz hb (Sz.frac h1 (by omega) h4 h3) (Sz.frac (by omega) (by omega) h4 h3) dn
theorem plD_Bx (b : Bx) {n : Nat} : plD (n + 2) b.d = true := by
  unfold Bx.d dB
  refine plD_tI ?_ (by show 4 ≤ 100000; decide)
  simp only [plL, plD_dR, Bool.and_self]
theorem plD_Bxs (bs : List Bx) (hl : bs.length ≤ 100000) {n : Nat} : plD (n + 3) (.lst (bs.map Bx.d)) = true := by
  refine plD_lI (plL_of fun d hd => ?_) (by rw [List.length_map]; exact hl)
  obtain ⟨b, _, rfl⟩ := List.mem_map.mp hd
  exact plD_Bx b
theorem plD_int (i : Int) {n : Nat} : plD n (.int i) = true := by cases n <;> rfl
theorem plL_ints (ws : List Int) {n : Nat} : plL n (ws.map D.int) = true := plL_of fun d hd => by
  obtain ⟨w, _, rfl⟩ := List.mem_map.mp hd
  exact plD_int w
theorem plD_ints (ws : List Int) (hl : ws.length ≤ 100000) {n : Nat} : plD (n + 1) (.lst (ws.map D.int)) = true := plD_lI (plL_ints ws) (by rw [List.length_map]; exact hl)
theorem plD_intsT (ws : List Int) (hl : ws.length ≤ 100000) {n : Nat} : plD (n + 1) (.tup (ws.map D.int)) = true := plD_tI (plL_ints ws) (by rw [List.length_map]; exact hl)
/-! weights as data -/
def wOkD : D → Bool
  | .int i => decide (1 ≤ i) && decide (i ≤ 400000)
  | _ => false
def wtsL (xs : List D) : Bool := (decide (1 ≤ xs.length) && decide (xs.length ≤ 12)) && xs.all wOkD
def weightsD : D → Bool
  | .lst xs => wtsL xs
  | .tup xs => wtsL xs
  | _ => false
theorem wtsL_ok {ws : List Int} (h : WtOk ws) : wtsL (ws.map D.int) = true := by
  unfold wtsL
  rw [List.length_map, decide_eq_true h.l0, decide_eq_true h.l1]
  simp only [Bool.true_and, List.all_eq_true]
  intro d hd
  obtain ⟨w, hw, rfl⟩ := List.mem_map.mp hd
  obtain ⟨h1, h2⟩ := h.rg w hw
  show (decide _ && decide _) = true
  rw [decide_eq_true h1, decide_eq_true h2]; rfl
theorem knL_ints : ∀ ws : List Int, knL (ws.map D.int) = true
  | [] => rfl
  | w :: ws => by rw [List.map_cons]; simp only [knL, knL_ints ws, knD, Bool.and_self]
theorem szlt {a : Int} (h0 : 0 < a) (h1 : a < 2 ^ 23) : a.natAbs < 2 ^ 9000 := by
  have h : a.natAbs < 2 ^ 23 := by omega
  exact Nat.lt_of_lt_of_le h (Nat.pow_le_pow_right (by decide) (by decide))
section
variable {cs : Cs} {P : DP} {dn : Bool}
theorem r_eqDn (h : P (.bl dn) cs) : oEq (sideD dn) (.str "down") cs P := ⟨rfl, rfl, by
  cases dn
  · rw [show eqD (sideD false) (.str "down") = false by decide]; exact h
  · rw [show eqD (sideD true) (.str "down") = true by decide]; exact h⟩
theorem r_eqAc (h : P (.bl (!dn)) cs) : oEq (sideD dn) (.str "across") cs P := ⟨rfl, rfl, by
  cases dn
  · rw [show eqD (sideD false) (.str "across") = true by decide]; exact h
  · rw [show eqD (sideD true) (.str "across") = false by decide]; exact h⟩
end
theorem ltleR {a b c : Rat} (h1 : a < b) (h2 : b ≤ c) : a < c := by
  refine Rat.not_le.mp fun h3 => ?_
  exact Rat.not_le.mpr h1 (Rat.le_trans h2 h3)
/-! exactly one of the boxes holds a point -/
theorem one_of_rising {f : Nat → Rat} {x : Rat} (hm : ∀ i, f i ≤ f (i + 1)) (h0 : f 0 ≤ x) : ∀ n, (List.range n).countP (fun i => !decide (x < f i) && decide (x < f (i + 1))) = if x < f n then 1 else 0
  | 0 => by rw [if_neg (Rat.not_lt.mpr h0)]; rfl
  | n + 1 => by
    rw [List.range_succ, List.countP_append, one_of_rising hm h0 n]
    by_cases h1 : x < f n
    · have h2 : x < f (n + 1) := ltleR h1 (hm n)
      rw [if_pos h1, if_pos h2]
      simp [List.countP_cons, h1]
    · rw [if_neg h1]
      by_cases h2 : x < f (n + 1)
      · rw [if_pos h2]
        simp [List.countP_cons, h1, h2]
      · rw [if_neg h2]
        simp [List.countP_cons, h2]
def edgeAt (a b : Rat) (ws : List Int) (i : Nat) : Rat := a + b * Rat.divInt (preS ws i) ws.sum
theorem edge_zero (a b : Rat) (ws : List Int) : edgeAt a b ws 0 = a := by
  unfold edgeAt
  rw [preS_zero, show Rat.divInt 0 ws.sum = 0 from Rat.zero_divInt _, Rat.mul_zero, Rat.add_zero]
theorem divInt_self' {a : Int} (h : a ≠ 0) : Rat.divInt a a = 1 := by
  rw [Rat.divInt_eq_div]
  exact div_self' (by intro z; exact h (Rat.intCast_eq_zero_iff.mp z))
theorem edge_len (a b : Rat) {ws : List Int} (h : WOk ws) : edgeAt a b ws ws.length = a + b := by
  unfold edgeAt
  have := h.sum_pos
  rw [preS_len, divInt_self' (by omega), Rat.mul_one]
theorem edge_step (a b : Rat) {ws : List Int} (h : WOk ws) {i : Nat} {w : Int} (hw : ws[i]? = some w) : edgeAt a b ws i + b * Rat.divInt w ws.sum = edgeAt a b ws (i + 1) := by
  unfold edgeAt
  have := h.sum_pos
  rw [step_rat _ _ (by omega), preS_succ hw]
theorem divInt_pos' {a b : Int} (ha : 0 < a) (hb : 0 < b) : 0 < Rat.divInt a b := by
  rw [Rat.divInt_eq_div]
  rw [Rat.div_def]
  exact Rat.mul_pos (Rat.intCast_pos.mpr ha) (Rat.inv_pos.mpr (Rat.intCast_pos.mpr hb))
theorem le_addR {a b : Rat} (h : 0 ≤ b) : a ≤ a + b := by
  have := Rat.add_le_add_left (c := a) |>.mpr h
  rwa [Rat.add_zero] at this
theorem edge_mono {a b : Rat} (hb : 0 < b) {ws : List Int} (h : WOk ws) (i : Nat) : edgeAt a b ws i ≤ edgeAt a b ws (i + 1) := by
  cases e : ws[i]? with
  | some w =>
    rw [← edge_step a b h e]
    have h1 := h.pos w (List.mem_of_getElem? e)
    exact le_addR (Rat.le_of_lt (Rat.mul_pos hb (divInt_pos' (by omega) h.sum_pos)))
  | none =>
    have e2 : ws.length ≤ i := List.getElem?_eq_none_iff.mp e
    unfold edgeAt preS
    rw [List.take_of_length_le e2, List.take_of_length_le (by omega)]
    exact Rat.le_refl
theorem splitAt_down {b : Bx} {ws : List Int} {i : Nat} {w : Int} (hw : ws[i]? = some w) : splitAt_ b ws true i = ⟨b.l, edgeAt b.t b.h ws i, b.w, b.h * Rat.divInt w ws.sum⟩ := by
  unfold splitAt_ cutB edgeAt
  rw [List.getD_eq_getElem?_getD, hw]; rfl
theorem splitAt_across {b : Bx} {ws : List Int} {i : Nat} {w : Int} (hw : ws[i]? = some w) : splitAt_ b ws false i = ⟨edgeAt b.l b.w ws i, b.t, b.w * Rat.divInt w ws.sum, b.h⟩ := by
  unfold splitAt_ cutB edgeAt
  rw [List.getD_eq_getElem?_getD, hw]; rfl
def Bx.lies (b : Bx) (x y : Rat) : Bool := liesR b.l b.t b.w b.h x y
theorem split_one {b : Bx} {ws : List Int} (hp : b.Pos) (hw : WOk ws) (dn : Bool) {x y : Rat} (x0 : b.l ≤ x) (x1 : x < b.l + b.w) (y0 : b.t ≤ y) (y1 : y < b.t + b.h) : (splitB b ws dn).countP (fun c => c.lies x y) = 1 := by
  unfold splitB
  rw [List.countP_map]
  cases dn with
  | true =>
    have e := one_of_rising (f := edgeAt b.t b.h ws) (x := y) (fun i => edge_mono hp.h hw i) (by rw [edge_zero]; exact y0) ws.length
    rw [edge_len _ _ hw, if_pos y1] at e
    rw [← e]
    refine List.countP_congr fun i hi => ?_
    have hi2 : i < ws.length := List.mem_range.mp hi
    have ew : ws[i]? = some ws[i] := List.getElem?_eq_getElem hi2
    show ((splitAt_ b ws true i).lies x y = true) ↔ _
    rw [splitAt_down ew]
    show liesR b.l (edgeAt b.t b.h ws i) b.w (b.h * Rat.divInt ws[i] ws.sum) x y = true ↔ _
    unfold liesR
    rw [edge_step _ _ hw ew, decide_eq_false (Rat.not_lt.mpr x0), decide_eq_true x1, Bool.not_false, Bool.true_and, Bool.true_and]
  | false =>
    have e := one_of_rising (f := edgeAt b.l b.w ws) (x := x) (fun i => edge_mono hp.w hw i) (by rw [edge_zero]; exact x0) ws.length
    rw [edge_len _ _ hw, if_pos x1] at e
    rw [← e]
    refine List.countP_congr fun i hi => ?_
    have hi2 : i < ws.length := List.mem_range.mp hi
    have ew : ws[i]? = some ws[i] := List.getElem?_eq_getElem hi2
    show ((splitAt_ b ws false i).lies x y = true) ↔ _
    rw [splitAt_across ew]
    show liesR (edgeAt b.l b.w ws i) b.t (b.w * Rat.divInt ws[i] ws.sum) b.h x y = true ↔ _
    unfold liesR
    rw [edge_step _ _ hw ew, decide_eq_false (Rat.not_lt.mpr y0), decide_eq_true y1, Bool.not_false, Bool.true_and, Bool.and_true]
theorem splitAt_pos {b : Bx} {ws : List Int} (hp : b.Pos) (hw : WOk ws) (dn : Bool) {i : Nat} {w : Int} (e : ws[i]? = some w) : (splitAt_ b ws dn i).Pos := by
  have h1 := hw.pos w (List.mem_of_getElem? e)
  have h2 := divInt_pos' (a := w) (b := ws.sum) (by omega) hw.sum_pos
  cases dn with
  | true => rw [splitAt_down e]; exact ⟨hp.w, Rat.mul_pos hp.h h2⟩
  | false => rw [splitAt_across e]; exact ⟨Rat.mul_pos hp.w h2, hp.h⟩
theorem splitAt_area {b : Bx} {ws : List Int} (hw : WOk ws) (dn : Bool) {i : Nat} {w : Int} (e : ws[i]? = some w) : (splitAt_ b ws dn i).w * (splitAt_ b ws dn i).h * (ws.sum : Rat) = b.w * b.h * (w : Rat) := by
  have hs := hw.sum_pos
  have hs' : (ws.sum : Rat) ≠ 0 := fun z => by have := Rat.intCast_eq_zero_iff.mp z; omega
  have h2 : Rat.divInt w ws.sum * (ws.sum : Rat) = (w : Rat) := by rw [Rat.divInt_eq_div]; exact Rat.div_mul_cancel hs'
  cases dn with
  | true => rw [splitAt_down e, Rat.mul_assoc, Rat.mul_assoc, h2, Rat.mul_assoc]
  | false => rw [splitAt_across e]; show b.w * _ * b.h * _ = _; rw [Rat.mul_assoc b.w, Rat.mul_comm (Rat.divInt w ws.sum), ← Rat.mul_assoc, Rat.mul_assoc, h2]
theorem Bx.Sz.mono {b : Bx} {n m : Nat} (h : b.Sz n) (l : n ≤ m) : b.Sz m := ⟨h.l.mono l, h.t.mono l, h.w.mono l, h.h.mono l⟩
theorem split_len (b : Bx) (ws : List Int) (dn : Bool) : (splitB b ws dn).length = ws.length := by unfold splitB; rw [List.length_map, List.length_range]
theorem split_get {b : Bx} {ws : List Int} {dn : Bool} {i : Nat} {d : D} (h : ((splitB b ws dn).map Bx.d)[i]? = some d) : ∃ w, ws[i]? = some w ∧ d = (splitAt_ b ws dn i).d := by
  have hi : i < ws.length := by
    have := (List.getElem?_eq_some_iff.mp h).1
    rw [List.length_map, split_len] at this
    exact this
  refine ⟨ws[i], List.getElem?_eq_getElem hi, ?_⟩
  unfold splitB at h
  rw [List.getElem?_map, List.getElem?_map, List.getElem?_range hi] at h
  exact (Option.some.inj h).symm
theorem split_zip {b : Bx} {ws : List Int} {dn : Bool} {i : Nat} {d : D} (h : (List.zipWith (fun d e => D.tup [d, e]) ((splitB b ws dn).map Bx.d) (ws.map D.int))[i]? = some d) : ∃ w, ws[i]? = some w ∧ d = .tup [(splitAt_ b ws dn i).d, .int w] := by
  rw [List.getElem?_zipWith] at h
  split at h
  · rename_i x y e1 e2
    obtain ⟨w, ew, rfl⟩ := split_get e1
    obtain ⟨w2, ew2, rfl⟩ := get_map_int e2
    rw [ew] at ew2
    cases ew2
    cases h
    exact ⟨w, ew, rfl⟩
  · cases h
section
variable {cs : Cs} {P : DP} {b : Bx}
theorem r_ixB0 (h : P (dR b.l) cs) : oIx b.d (.int 0) cs P := h
theorem r_ixB1 (h : P (dR b.t) cs) : oIx b.d (.int 1) cs P := h
theorem r_ixB2 (h : P (dR b.w) cs) : oIx b.d (.int 2) cs P := h
theorem r_ixB3 (h : P (dR b.h) cs) : oIx b.d (.int 3) cs P := h
end
theorem split_at {b : Bx} {ws : List Int} {dn : Bool} {i : Nat} {w : Int} (h : ws[i]? = some w) : (splitB b ws dn)[i]? = some (splitAt_ b ws dn i) := by
  unfold splitB
  rw [List.getElem?_map, List.getElem?_range (List.getElem?_eq_some_iff.mp h).1]; rfl
theorem plL_bls {α : Type} (f : α → Bool) (l : List α) {n : Nat} : plL n (l.map fun c => D.bl (f c)) = true := plL_of fun d hd => by
  obtain ⟨c, _, rfl⟩ := List.mem_map.mp hd
  cases n <;> rfl
theorem cnt_bls {α : Type} (f : α → Bool) (l : List α) : cntD (l.map fun c => D.bl (f c)) (.bl true) = l.countP f := by
  unfold cntD
  rw [List.countP_map]
  refine List.countP_congr fun c _ => ?_
  show eqD (.bl (f c)) (.bl true) = true ↔ _
  rw [eqD_bl]
  simp
theorem frac_in {a b x : Rat} (hb : 0 < b) {g : Int} (g0 : 0 ≤ g) (g1 : g < 1000) : a ≤ a + b * Rat.divInt g 1000 ∧ a + b * Rat.divInt g 1000 < a + b := by
  have h0 : 0 ≤ Rat.divInt g 1000 := by
    rw [Rat.divInt_eq_div, Rat.div_def]
    exact Rat.mul_nonneg (Rat.intCast_nonneg.mpr g0) (Rat.le_of_lt (Rat.inv_pos.mpr (by decide)))
  have h1 : Rat.divInt g 1000 < 1 := by
    rw [Rat.divInt_eq_div, Rat.div_lt_iff (by decide), Rat.one_mul]
    exact Rat.intCast_lt_intCast.mpr g1
  refine ⟨le_addR (Rat.mul_nonneg (Rat.le_of_lt hb) h0), ?_⟩
  refine Rat.add_lt_add_left.mpr ?_
  have := Rat.mul_lt_mul_of_pos_left h1 hb
  rwa [Rat.mul_one] at this
end DL

/-! DLJ: comprehensions whose list will change; comprehensions of two generators. -/
namespace DL
open PySem PySem.Spec PyProof.Rows L2
section
variable {X : Cx} {W : WX} {K : PySem.W.Frag} {σ : L2.St} {H : Hp}
/-- what was put aside is a thing that may change -/
theorem Sta.backM {F G0 : Hp} {cs : Cs} {p : Addr} {m : MO} {o : HO} (s : Sta K (upd F p o) G0 cs H) (hF : F p = none) (q : MoOk K (pur (upd F p o) cs H) m o) : Sta K F G0 ((p, m) :: cs) H ∧ p ∉ adr cs := by
  have hc : p ∉ adr cs := fun z => by
    have := s.ap p z
    rw [upd_same] at this; cases this
  have e : pur F ((p, m) :: cs) H = pur (upd F p o) cs H := by
    funext b
    unfold pur
    by_cases hb : b = p
    · subst hb
      rw [if_pos (.inr (List.mem_cons_self ..)), if_pos (.inl (by rw [upd_same]; rfl))]
    · rw [upd_ne hb]
      have : (b ∈ adr ((p, m) :: cs)) ↔ (b ∈ adr cs) := by
        show b ∈ p :: adr cs ↔ _
        rw [List.mem_cons]
        exact ⟨fun h => h.resolve_left hb, .inr⟩
      by_cases h2 : (F b).isSome = true ∨ b ∈ adr cs
      · rw [if_pos h2, if_pos (h2.imp id this.mpr)]
      · rw [if_neg h2, if_neg fun z => h2 (z.imp id this.mp)]
  refine ⟨⟨fun b u h => s.fr b u (by rw [upd_ne (fun z => by rw [z, hF] at h; cases h)]; exact h), by rw [e]; exact s.gr, ?_, ?_, ?_, ft_back s.ft hF⟩, hc⟩
  · show (p :: adr cs).Nodup
    exact List.nodup_cons.mpr ⟨hc, s.nd⟩
  · intro a ha
    rcases List.mem_cons.mp (show a ∈ p :: adr cs from ha) with e | e
    · rw [e]; exact hF
    · have := s.ap a e
      rw [upd_ne (fun z => hc (by rw [← z]; exact e))] at this; exact this
  · intro a m' hm
    rw [e]
    rcases List.mem_cons.mp hm with e | e
    · cases e
      exact ⟨o, s.fr p o upd_same, q⟩
    · exact s.ow a m' e
/-- the end of a comprehension -/
abbrev CEnd (K : PySem.W.Frag) (F G : Hp) (R : List D → Cs → Prop) (Q : VK) : Prop := ∀ H2 cs2 D vacc acc, F D = none → Sta K (upd F D (.lst vacc)) G cs2 H2 → RepL K (pur (upd F D (.lst vacc)) cs2 H2) vacc acc → R acc cs2 → Q (.ref D) H2
theorem cend_data {F G : Hp} {P : DP} {Q : VK} (pe : PostE K F G P Q) : CEnd K F G (fun ds cs2 => P (.lst ds) cs2) Q := fun H2 cs2 D vacc acc hF s ra h => by
  obtain ⟨s3, g3, e3⟩ := s.back hF
  exact pe H2 cs2 _ _ s3 (.lst (SqL.of e3) (ra.mono g3)) h
theorem cend_mut {F G : Hp} {P : DP} {Q : VK} (pe : PostE K F G P Q) : CEnd K F G (fun ds cs2 => ∀ p, p ∉ adr cs2 → P (.opq (.ref p)) ((p, .lst ds) :: cs2)) Q := fun H2 cs2 D vacc acc hF s ra h => by
  obtain ⟨s3, hn⟩ := s.backM (m := .lst acc) hF ra
  exact pe H2 _ _ _ s3 (.opq _) (h D hn)
theorem CEnd.le {F G G' : Hp} {R : List D → Cs → Prop} {Q : VK} (h : CEnd K F G R Q) (e : Ex G G') : CEnd K F G' R Q := fun H2 cs2 D vacc acc hF s => h H2 cs2 D vacc acc hF (s.from_ e)
def wCompR (wi : WI) (g : WG) (wt : WT) (we : DL.WE) (vs : List Nat) (R : DP → List D → Cs → Prop) : DL.WE := fun ρ cs P Z => wi ρ cs (fun xs cs1 => xs.length ≤ 100000 ∧ compW g wt we xs (wipeD ρ vs) cs1 [] (R P)) Z
abbrev RM : DP → List D → Cs → Prop := fun P ds cs2 => ∀ p, p ∉ adr cs2 → P (.opq (.ref p)) ((p, .lst ds) :: cs2)
abbrev RD : DP → List D → Cs → Prop := fun P ds cs2 => P (.lst ds) cs2
theorem lcR_ok {wi : WI} {g : TG} {gd : WG} {wt : WT} {we : DL.WE} {vs : List Nat} {R : DP → List D → Cs → Prop} (gk : GOk K g gd vs) (hR : ∀ F G P Q, PostE K F G P Q → CEnd K F G (R P) Q) {Q : VK} : lE K W (wCompR wi gd wt we vs R) σ H Q → tLc (lI K W wi) g (lT K W0 wt) (lE K W0 we) vs σ H Q := by
  rintro ⟨F, cs, ρ, P, Z, s, re, hw, pe, px⟩
  have pc := hR F _ P Q pe
  refine ⟨F, cs, ρ, _, Z, s, re, hw, fun H1 cs1 J xs s1 yi h1 => ?_, px⟩
  intro D hD
  obtain ⟨hlen, h1⟩ := h1
  have hFD : F D = none := s1.fr.back hD
  have reW : RepE K (pur F cs1 H1) (L2.wipe σ vs) (wipeD ρ vs) := (re.mono s1.gr).wipe vs
  refine ⟨fun i m H' => i ≤ xs.length ∧ m = xs.length - i ∧ ∃ cs' acc vacc, Sta K (upd F D (.lst vacc)) (pur F cs1 H1) cs' H' ∧ RepL K (pur (upd F D (.lst vacc)) cs' H') vacc acc ∧ acc.length ≤ i ∧ compW gd wt we (xs.drop i) (wipeD ρ vs) cs' acc (R P),
    ⟨xs.length, Nat.zero_le _, rfl, cs1, [], [], s1.aside hD, .nil, Nat.le_refl _, h1⟩, ?_⟩
  rintro i m H2 ⟨hi, rfl, cs2, acc, vacc, s2, ra, hla, h2⟩
  cases e : xs.drop i with
  | nil =>
    have hl : xs.length ≤ i := by
      have z := congrArg List.length e
      rw [List.length_drop] at z
      have z' : xs.length - i = 0 := z
      omega
    have hie : i = xs.length := by omega
    rw [e] at h2
    exact .inl ⟨by rw [hie]; exact yi.stop _ cs2 H2 s2, pc H2 cs2 D vacc acc hFD (s2.from_ s1.gr) ra h2⟩
  | cons d r =>
    obtain ⟨e1, e2⟩ := drop_cons e
    have hlt : i < xs.length := (List.getElem?_eq_some_iff.mp e1).1
    rw [e] at h2
    refine .inr ⟨yi.go i d e1 _ cs2 H2 s2, fun H' => ∃ cs' acc vacc, Sta K (upd F D (.lst vacc)) (pur F cs1 H1) cs' H' ∧ RepL K (pur (upd F D (.lst vacc)) cs' H') vacc acc ∧ acc.length ≤ i + 1 ∧ compW gd wt we r (wipeD ρ vs) cs' acc (R P), ?_, ?_⟩
    · rintro H' ⟨cs', acc', vacc', s', ra', hl', h'⟩
      exact ⟨xs.length - (i + 1), by omega, by omega, rfl, cs', acc', vacc', s', ra', hl', by rw [e2]; exact h'⟩
    · intro x H3 hy
      obtain ⟨s3, r3⟩ := yi.yld i d e1 _ cs2 H2 x H3 s2 hy
      refine gk _ cs2 H3 _ (wipeD ρ vs) x d _ _ s3.self (reW.mono (s2.gr.trans s3.gr)) r3 wipe_wipe h2 fun σ4 ρ4 hw4 re4 h4 => ⟨hw4.trans rfl, ?_⟩
      refine ⟨_, cs2, ρ4, _, Z0, s3.self, re4, h4, fun H5 cs5 k s5 h5 => ?_, fun _ _ _ _ _ _ z => z⟩
      cases k with
      | false => exact iteF ⟨cs5, acc, vacc, s5.from_ (s2.gr.trans s3.gr), ra.mono (s3.gr.trans s5.gr), Nat.le_succ_of_le hla, h5.2 rfl⟩
      | true =>
        refine iteT ⟨_, cs5, ρ4, _, Z0, s5.self, re4.mono s5.gr, h5.1 rfl, fun H6 cs6 y dy s6 r6 h6 => ?_, fun _ _ _ _ _ _ z => z⟩
        have s7 := (s6.from_ ((s2.gr.trans s3.gr).trans s5.gr))
        obtain ⟨s8, e8⟩ := s7.turn (o' := .lst (vacc ++ [y])) hFD
        refine ⟨vacc, s6.fr D _ upd_same, ?_, cs6, acc ++ [dy], vacc ++ [y], s8, ?_, by rw [List.length_append]; exact Nat.succ_le_succ hla, h6⟩
        · rw [ra.length]; exact Nat.lt_of_le_of_lt (Nat.le_trans hla hi) (Nat.lt_of_le_of_lt hlen (by decide))
        · rw [e8]
          exact (ra.mono (s3.gr.trans (s5.gr.trans s6.gr))).append (.cons r6 .nil)
def compW2 (g : WG) (wt : WT) (wi1 : WI) (g1 : WG) (wt1 : WT) (we : DL.WE) (vs1 : List Nat) : List D → DL.Env → Cs → List D → (List D → Cs → Prop) → Prop
  | [], _, cs, acc, P => P acc cs
  | d :: r, ρ, cs, acc, P => g d ρ fun ρ1 => wt ρ1 cs (fun k cs1 => (k = true → wi1 ρ1 cs1 (fun xs cs2 => acc.length + xs.length ≤ 100000 ∧ compW g1 wt1 we xs (wipeD ρ1 vs1) cs2 acc (fun acc' cs3 => compW2 g wt wi1 g1 wt1 we vs1 r ρ cs3 acc' P)) Z0) ∧ (k = false → compW2 g wt wi1 g1 wt1 we vs1 r ρ cs1 acc P)) Z0
def wComp2 (wi : WI) (g : WG) (wt : WT) (wi1 : WI) (g1 : WG) (wt1 : WT) (we : DL.WE) (vs vs1 : List Nat) (R : DP → List D → Cs → Prop) : DL.WE := fun ρ cs P Z => wi ρ cs (fun xs cs1 => compW2 g wt wi1 g1 wt1 we vs1 xs (wipeD ρ vs) cs1 [] (R P)) Z
theorem lc2_ok {wi wi1 : WI} {g g1 : TG} {gd gd1 : WG} {wt wt1 : WT} {we : DL.WE} {vs vs1 : List Nat} {R : DP → List D → Cs → Prop} (gk : GOk K g gd vs) (gk1 : GOk K g1 gd1 vs1) (hR : ∀ F G P Q, PostE K F G P Q → CEnd K F G (R P) Q) {Q : VK} :
    lE K W (wComp2 wi gd wt wi1 gd1 wt1 we vs vs1 R) σ H Q → tLc2 (lI K W wi) g (lT K W0 wt) (lI K W0 wi1) g1 (lT K W0 wt1) (lE K W0 we) vs vs1 σ H Q := by
  rintro ⟨F, cs, ρ, P, Z, s, re, hw, pe, px⟩
  have pc := hR F _ P Q pe
  refine ⟨F, cs, ρ, _, Z, s, re, hw, fun H1 cs1 J xs s1 yi h1 => ?_, px⟩
  intro D hD
  have hFD : F D = none := s1.fr.back hD
  have reW : RepE K (pur F cs1 H1) (L2.wipe σ vs) (wipeD ρ vs) := (re.mono s1.gr).wipe vs
  refine ⟨fun i m H' => i ≤ xs.length ∧ m = xs.length - i ∧ ∃ cs' acc vacc, Sta K (upd F D (.lst vacc)) (pur F cs1 H1) cs' H' ∧ RepL K (pur (upd F D (.lst vacc)) cs' H') vacc acc ∧ compW2 gd wt wi1 gd1 wt1 we vs1 (xs.drop i) (wipeD ρ vs) cs' acc (R P),
    ⟨xs.length, Nat.zero_le _, rfl, cs1, [], [], s1.aside hD, .nil, h1⟩, ?_⟩
  rintro i m H2 ⟨hi, rfl, cs2, acc, vacc, s2, ra, h2⟩
  cases e : xs.drop i with
  | nil =>
    have hl : xs.length ≤ i := by
      have z := congrArg List.length e
      rw [List.length_drop] at z
      have z' : xs.length - i = 0 := z
      omega
    have hie : i = xs.length := by omega
    rw [e] at h2
    exact .inl ⟨by rw [hie]; exact yi.stop _ cs2 H2 s2, pc H2 cs2 D vacc acc hFD (s2.from_ s1.gr) ra h2⟩
  | cons d r =>
    obtain ⟨e1, e2⟩ := drop_cons e
    have hlt : i < xs.length := (List.getElem?_eq_some_iff.mp e1).1
    rw [e] at h2
    refine .inr ⟨yi.go i d e1 _ cs2 H2 s2, fun H' => ∃ cs' acc vacc, Sta K (upd F D (.lst vacc)) (pur F cs1 H1) cs' H' ∧ RepL K (pur (upd F D (.lst vacc)) cs' H') vacc acc ∧ compW2 gd wt wi1 gd1 wt1 we vs1 r (wipeD ρ vs) cs' acc (R P), ?_, ?_⟩
    · rintro H' ⟨cs', acc', vacc', s', ra', h'⟩
      exact ⟨xs.length - (i + 1), by omega, by omega, rfl, cs', acc', vacc', s', ra', by rw [e2]; exact h'⟩
    · intro x H3 hy
      obtain ⟨s3, r3⟩ := yi.yld i d e1 _ cs2 H2 x H3 s2 hy
      refine gk _ cs2 H3 _ (wipeD ρ vs) x d _ _ s3.self (reW.mono (s2.gr.trans s3.gr)) r3 wipe_wipe h2 fun σ4 ρ4 hw4 re4 h4 => ⟨hw4.trans rfl, ?_⟩
      refine ⟨_, cs2, ρ4, _, Z0, s3.self, re4, h4, fun H5 cs5 k s5 h5 => ?_, fun _ _ _ _ _ _ z => z⟩
      cases k with
      | false => exact iteF ⟨cs5, acc, vacc, s5.from_ (s2.gr.trans s3.gr), ra.mono (s3.gr.trans s5.gr), h5.2 rfl⟩
      | true =>
        refine iteT ⟨_, cs5, ρ4, _, Z0, s5.self, re4.mono s5.gr, h5.1 rfl, fun H6 cs6 J1 ys s6 yi1 h6 => ?_, fun _ _ _ _ _ _ z => z⟩
        obtain ⟨hly, h6⟩ := h6
        have g6 := (s2.gr.trans s3.gr).trans (s5.gr.trans s6.gr)
        have reV : RepE K (pur (upd F D (.lst vacc)) cs6 H6) (L2.wipe σ4 vs1) (wipeD ρ4 vs1) := (re4.mono (s5.gr.trans s6.gr)).wipe vs1
        refine ⟨fun j k H' => j ≤ ys.length ∧ k = ys.length - j ∧ ∃ cs' acc' vacc', Sta K (upd F D (.lst vacc')) (pur (upd F D (.lst vacc)) cs6 H6) cs' H' ∧ RepL K (pur (upd F D (.lst vacc')) cs' H') vacc' acc' ∧ acc'.length ≤ acc.length + j ∧ compW gd1 wt1 we (ys.drop j) (wipeD ρ4 vs1) cs' acc' (fun acc' cs3 => compW2 gd wt wi1 gd1 wt1 we vs1 r (wipeD ρ vs) cs3 acc' (R P)),
          ⟨ys.length, Nat.zero_le _, rfl, cs6, acc, vacc, s6.self, ra.mono (s3.gr.trans (s5.gr.trans s6.gr)), Nat.le_refl _, h6⟩, ?_⟩
        rintro j k H7 ⟨hj, rfl, cs7, acc7, vacc7, s7, ra7, hla, h7⟩
        cases f : ys.drop j with
        | nil =>
          have hl : ys.length ≤ j := by
            have z := congrArg List.length f
            rw [List.length_drop] at z
            have z' : ys.length - j = 0 := z
            omega
          have hie : j = ys.length := by omega
          rw [f] at h7
          exact .inl ⟨by rw [hie]; exact yi1.stop _ cs7 H7 s7, cs7, acc7, vacc7, s7.from_ g6, ra7, h7⟩
        | cons d1 r1 =>
          obtain ⟨f1, f2⟩ := drop_cons f
          have hlt1 : j < ys.length := (List.getElem?_eq_some_iff.mp f1).1
          rw [f] at h7
          refine .inr ⟨yi1.go j d1 f1 _ cs7 H7 s7, fun H' => ∃ cs' acc' vacc', Sta K (upd F D (.lst vacc')) (pur (upd F D (.lst vacc)) cs6 H6) cs' H' ∧ RepL K (pur (upd F D (.lst vacc')) cs' H') vacc' acc' ∧ acc'.length ≤ acc.length + (j + 1) ∧ compW gd1 wt1 we r1 (wipeD ρ4 vs1) cs' acc' (fun acc' cs3 => compW2 gd wt wi1 gd1 wt1 we vs1 r (wipeD ρ vs) cs3 acc' (R P)), ?_, ?_⟩
          · rintro H' ⟨cs', acc', vacc', s', ra', hl', h'⟩
            exact ⟨ys.length - (j + 1), by omega, by omega, rfl, cs', acc', vacc', s', ra', hl', by rw [f2]; exact h'⟩
          · intro x1 H8 hy1
            obtain ⟨s8, r8⟩ := yi1.yld j d1 f1 _ cs7 H7 x1 H8 s7 hy1
            refine gk1 _ cs7 H8 _ (wipeD ρ4 vs1) x1 d1 _ _ s8.self (reV.mono (s7.gr.trans s8.gr)) r8 wipe_wipe h7 fun σ9 ρ9 hw9 re9 h9 => ⟨hw9.trans rfl, ?_⟩
            refine ⟨_, cs7, ρ9, _, Z0, s8.self, re9, h9, fun Ha csa k sa ha => ?_, fun _ _ _ _ _ _ z => z⟩
            cases k with
            | false => exact iteF ⟨csa, acc7, vacc7, sa.from_ (s7.gr.trans s8.gr), ra7.mono (s8.gr.trans sa.gr), Nat.le_succ_of_le hla, ha.2 rfl⟩
            | true =>
              refine iteT ⟨_, csa, ρ9, _, Z0, sa.self, re9.mono sa.gr, ha.1 rfl, fun Hb csb y dy sb rb hb => ?_, fun _ _ _ _ _ _ z => z⟩
              have sc := (sb.from_ ((s7.gr.trans s8.gr).trans sa.gr))
              obtain ⟨sd, ed⟩ := sc.turn (o' := .lst (vacc7 ++ [y])) hFD
              refine ⟨vacc7, sb.fr D _ upd_same, ?_, csb, acc7 ++ [dy], vacc7 ++ [y], sd, ?_, by rw [List.length_append]; exact Nat.succ_le_succ hla, hb⟩
              · rw [ra7.length]; exact Nat.lt_of_le_of_lt (Nat.le_trans hla (Nat.le_trans (Nat.add_le_add_left hj _) hly)) (by decide)
              · rw [ed]
                exact (ra7.mono (s8.gr.trans (sa.gr.trans sb.gr))).append (.cons rb .nil)
variable {elt tg iter tg1 iter1 : Expr} {ifs ifs1 : List Expr} {scope : Scope} {own : List (Str × Nat)} {vs1 : List Nat} {pos : Pos} {wi wi1 : WI} {g g1 : TG} {gd gd1 : WG} {wt wt1 : WT} {we : DL.WE}
theorem d_lcM (hc : X.calm = true) (hN : X.N.Nodup) (hi : DI X W tg iter wi) (ok : BlkOk X.N X.env.scope scope own) (gk : GOk X.K g gd (own.map (·.2)))
    (hg : ∀ (s : Shared) (H : Hp) (C : Addr) (cl : List (Str × Addr)) (fp : List Addr), PG (X.blk s H scope (compEnvC scope cl C X.env) fp) tg g)
    (ht : ∀ (s : Shared) (H : Hp) (C : Addr) (cl : List (Str × Addr)) (fp : List Addr), PTs (X.blk s H scope (compEnvC scope cl C X.env) fp) ifs (lT X.K W0 wt))
    (he : ∀ (s : Shared) (H : Hp) (C : Addr) (cl : List (Str × Addr)) (fp : List Addr), DE (X.blk s H scope (compEnvC scope cl C X.env) fp) W0 elt we) (hs : ∀ x, foldedSetIterable iter X.env x = pure x := by intro _; rfl) :
    DE X W (.ListComp elt [⟨tg, iter, ifs, 0⟩] scope pos) (wCompR wi gd wt we (own.map (·.2)) RM) := PE.imp (pe_lc hc hN hi ok hg ht he hs) fun _ _ _ h => lcR_ok gk (fun _ _ _ _ pe => cend_mut pe) h
theorem ds_setLcM {i : Nat} {y : Str} {py spos : Pos} (hc : X.calm = true) (hN : X.N.Nodup) (hy : X.N[i]? = some y) (hyl : X.env.scope.names.lookup y = some .local)
    (hsw : swapsWith (.ListComp elt [⟨tg, iter, ifs, 0⟩] scope pos) (some (.Name y py)) spos.line X.env = pure true) (hi : DI X W tg iter wi) (ok : BlkOk X.N X.env.scope scope own) (gk : GOk X.K g gd (own.map (·.2)))
    (hg : ∀ (s : Shared) (H : Hp) (C : Addr) (cl : List (Str × Addr)) (fp : List Addr), PG (X.blk s H scope (compEnvC scope cl C X.env) fp) tg g)
    (ht : ∀ (s : Shared) (H : Hp) (C : Addr) (cl : List (Str × Addr)) (fp : List Addr), PTs (X.blk s H scope (compEnvC scope cl C X.env) fp) ifs (lT X.K W0 wt))
    (he : ∀ (s : Shared) (H : Hp) (C : Addr) (cl : List (Str × Addr)) (fp : List Addr), DE (X.blk s H scope (compEnvC scope cl C X.env) fp) W0 elt we) (hs : ∀ x, foldedSetIterable iter X.env x = pure x := by intro _; rfl) :
    DS X W (.Assign [.Name y py] (.ListComp elt [⟨tg, iter, ifs, 0⟩] scope pos) spos) (sAsg (wCompR wi gd wt we (own.map (·.2)) RM) (gN i)) :=
  PS.imp (ps_setLc hc hN hy hyl hsw hi ok hg ht he hs) fun E σ H h => by
    obtain ⟨F, cs, ρ, f, s, re, hw, pe⟩ := h
    have h2 : lE X.K W (wCompR wi gd wt we (own.map (·.2)) RM) σ H (fun x H1 => gName i x σ H1 E.nx) := ⟨F, cs, ρ, _, _, s, re, hw, fun H1 cs1 v d s1 r1 h1 => pe.nx H1 cs1 _ _ s1 ((re.mono s1.gr).set r1 i) h1, pe.px re⟩
    exact lcR_ok gk (fun _ _ _ _ pe => cend_mut pe) h2
theorem d_lc2 (R : DP → List D → Cs → Prop) (hR : ∀ F G P Q, PostE X.K F G P Q → CEnd X.K F G (R P) Q) (hc : X.calm = true) (hN : X.N.Nodup) (hi : DI X W tg iter wi) (ok : BlkOk X.N X.env.scope scope own) (hv : ∀ i ∈ vs1, i ∈ own.map (·.2)) (gk : GOk X.K g gd (own.map (·.2))) (gk1 : GOk X.K g1 gd1 vs1)
    (hg : ∀ (s : Shared) (H : Hp) (C : Addr) (cl : List (Str × Addr)) (fp : List Addr), PG (X.blk s H scope (compEnvC scope cl C X.env) fp) tg g)
    (ht : ∀ (s : Shared) (H : Hp) (C : Addr) (cl : List (Str × Addr)) (fp : List Addr), PTs (X.blk s H scope (compEnvC scope cl C X.env) fp) ifs (lT X.K W0 wt))
    (hi1 : ∀ (s : Shared) (H : Hp) (C : Addr) (cl : List (Str × Addr)) (fp : List Addr), DI (X.blk s H scope (compEnvC scope cl C X.env) fp) W0 tg1 iter1 wi1)
    (hg1 : ∀ (s : Shared) (H : Hp) (C : Addr) (cl : List (Str × Addr)) (fp : List Addr), PG (X.blk s H scope (compEnvC scope cl C X.env) fp) tg1 g1)
    (ht1 : ∀ (s : Shared) (H : Hp) (C : Addr) (cl : List (Str × Addr)) (fp : List Addr), PTs (X.blk s H scope (compEnvC scope cl C X.env) fp) ifs1 (lT X.K W0 wt1))
    (he : ∀ (s : Shared) (H : Hp) (C : Addr) (cl : List (Str × Addr)) (fp : List Addr), DE (X.blk s H scope (compEnvC scope cl C X.env) fp) W0 elt we) (hs : ∀ x, foldedSetIterable iter X.env x = pure x := by intro _; rfl) (hs1 : ∀ env x, foldedSetIterable iter1 env x = pure x := by intro _ _; rfl) :
    DE X W (.ListComp elt [⟨tg, iter, ifs, 0⟩, ⟨tg1, iter1, ifs1, 0⟩] scope pos) (wComp2 wi gd wt wi1 gd1 wt1 we (own.map (·.2)) vs1 R) := PE.imp (pe_lc2 hc hN hi ok hv hg ht hi1 hg1 ht1 he hs hs1) fun _ _ _ h => lc2_ok gk gk1 hR h
theorem ds_setLc2 {i : Nat} {y : Str} {py spos : Pos} (R : DP → List D → Cs → Prop) (hR : ∀ F G P Q, PostE X.K F G P Q → CEnd X.K F G (R P) Q) (hc : X.calm = true) (hN : X.N.Nodup) (hy : X.N[i]? = some y) (hyl : X.env.scope.names.lookup y = some .local)
    (hsw : swapsWith (.ListComp elt [⟨tg, iter, ifs, 0⟩, ⟨tg1, iter1, ifs1, 0⟩] scope pos) (some (.Name y py)) spos.line X.env = pure true) (hi : DI X W tg iter wi) (ok : BlkOk X.N X.env.scope scope own) (hv : ∀ i ∈ vs1, i ∈ own.map (·.2)) (gk : GOk X.K g gd (own.map (·.2))) (gk1 : GOk X.K g1 gd1 vs1)
    (hg : ∀ (s : Shared) (H : Hp) (C : Addr) (cl : List (Str × Addr)) (fp : List Addr), PG (X.blk s H scope (compEnvC scope cl C X.env) fp) tg g)
    (ht : ∀ (s : Shared) (H : Hp) (C : Addr) (cl : List (Str × Addr)) (fp : List Addr), PTs (X.blk s H scope (compEnvC scope cl C X.env) fp) ifs (lT X.K W0 wt))
    (hi1 : ∀ (s : Shared) (H : Hp) (C : Addr) (cl : List (Str × Addr)) (fp : List Addr), DI (X.blk s H scope (compEnvC scope cl C X.env) fp) W0 tg1 iter1 wi1)
    (hg1 : ∀ (s : Shared) (H : Hp) (C : Addr) (cl : List (Str × Addr)) (fp : List Addr), PG (X.blk s H scope (compEnvC scope cl C X.env) fp) tg1 g1)
    (ht1 : ∀ (s : Shared) (H : Hp) (C : Addr) (cl : List (Str × Addr)) (fp : List Addr), PTs (X.blk s H scope (compEnvC scope cl C X.env) fp) ifs1 (lT X.K W0 wt1))
    (he : ∀ (s : Shared) (H : Hp) (C : Addr) (cl : List (Str × Addr)) (fp : List Addr), DE (X.blk s H scope (compEnvC scope cl C X.env) fp) W0 elt we) (hs : ∀ x, foldedSetIterable iter X.env x = pure x := by intro _; rfl) (hs1 : ∀ env x, foldedSetIterable iter1 env x = pure x := by intro _ _; rfl) :
    DS X W (.Assign [.Name y py] (.ListComp elt [⟨tg, iter, ifs, 0⟩, ⟨tg1, iter1, ifs1, 0⟩] scope pos) spos) (sAsg (wComp2 wi gd wt wi1 gd1 wt1 we (own.map (·.2)) vs1 R) (gN i)) :=
  PS.imp (ps_setLc2 hc hN hy hyl hsw hi ok hv hg ht hi1 hg1 ht1 he hs hs1) fun E σ H h => by
    obtain ⟨F, cs, ρ, f, s, re, hw, pe⟩ := h
    have h2 : lE X.K W (wComp2 wi gd wt wi1 gd1 wt1 we (own.map (·.2)) vs1 R) σ H (fun x H1 => gName i x σ H1 E.nx) := ⟨F, cs, ρ, _, _, s, re, hw, fun H1 cs1 v d s1 r1 h1 => pe.nx H1 cs1 _ _ s1 ((re.mono s1.gr).set r1 i) h1, pe.px re⟩
    exact lc2_ok gk gk1 hR h2
end
/-! going through -/
section
variable {ρ : DL.Env} {cs : Cs} {P : DP} {Z : XZ} {we : DL.WE} {wt wt1 : WT}
theorem r_compM_ {wi : WI} {g : WG} {vs : List Nat} {R : DP → List D → Cs → Prop} (h : wi ρ cs (fun xs cs1 => xs.length ≤ 100000 ∧ compW g wt we xs (wipeD ρ vs) cs1 [] (R P)) Z) : wCompR wi g wt we vs R ρ cs P Z := h
theorem r_comp2 {wi wi1 : WI} {g g1 : WG} {vs vs1 : List Nat} {R : DP → List D → Cs → Prop} (h : wi ρ cs (fun xs cs1 => compW2 g wt wi1 g1 wt1 we vs1 xs (wipeD ρ vs) cs1 [] (R P)) Z) : wComp2 wi g wt wi1 g1 wt1 we vs vs1 R ρ cs P Z := h
/-- two generators, by an invariant of the outer one -/
theorem r_comp2I {wi1 : WI} {g g1 : WG} {vs1 : List Nat} {R : List D → Cs → Prop} (I : Nat → List D → Cs → Prop) : ∀ (xs acc : List D) (k : Nat) {cs : Cs}, I k acc cs →
    (∀ i d acc cs (N : List D → Cs → Prop), xs[i]? = some d → I (k + i) acc cs → (∀ acc' cs', I (k + i + 1) acc' cs' → N acc' cs') → g d ρ fun ρ1 => wt ρ1 cs (fun b cs1 => (b = true → wi1 ρ1 cs1 (fun xs cs2 => acc.length + xs.length ≤ 100000 ∧ compW g1 wt1 we xs (wipeD ρ1 vs1) cs2 acc N) Z0) ∧ (b = false → N acc cs1)) Z0) →
    (∀ acc cs, I (k + xs.length) acc cs → R acc cs) → compW2 g wt wi1 g1 wt1 we vs1 xs ρ cs acc R
  | [], acc, k, cs, h0, hs, hd => hd acc cs h0
  | d :: r, acc, k, cs, h0, hs, hd => by
    refine hs 0 d acc cs (fun acc' cs' => compW2 g wt wi1 g1 wt1 we vs1 r ρ cs' acc' R) rfl h0 fun acc' cs' h1 => r_comp2I I r acc' (k + 1) h1 (fun i d acc cs N e hi hn => ?_) (fun acc cs h => ?_)
    · have e1 : k + (i + 1) = k + 1 + i := by omega
      refine hs (i + 1) d acc cs N e (by rw [e1]; exact hi) fun acc' cs' hh => hn acc' cs' (by rw [← e1]; exact hh)
    · refine hd acc cs ?_
      have e1 : k + (d :: r).length = k + 1 + r.length := by rw [List.length_cons]; omega
      rw [e1]; exact h
/-- .. where nothing changes: each outer item d makes the list f d -/
theorem r_comp2F {wi1 : WI} {g g1 : WG} {vs1 : List Nat} {R : List D → Cs → Prop} (f : D → List D) {xs : List D}
    (hs : ∀ d acc (N : List D → Cs → Prop), d ∈ xs → N (acc ++ f d) cs → acc.length ≤ (xs.flatMap f).length → g d ρ fun ρ1 => wt ρ1 cs (fun b cs1 => (b = true → wi1 ρ1 cs1 (fun ys cs2 => acc.length + ys.length ≤ 100000 ∧ compW g1 wt1 we ys (wipeD ρ1 vs1) cs2 acc N) Z0) ∧ (b = false → N acc cs1)) Z0)
    (hd : R (xs.flatMap f) cs) : compW2 g wt wi1 g1 wt1 we vs1 xs ρ cs [] R := by
  refine r_comp2I (fun i acc cs' => acc = (xs.take i).flatMap f ∧ cs' = cs) xs [] 0 ⟨rfl, rfl⟩ ?_ ?_
  · rintro i d acc cs' N e ⟨rfl, rfl⟩ hN
    rw [Nat.zero_add] at hN ⊢
    refine hs d _ _ (List.mem_of_getElem? e) (hN _ _ ⟨?_, rfl⟩) ?_
    · rw [take_more e, List.flatMap_append]; simp
    · rw [← List.take_append_drop i xs, List.flatMap_append, List.length_append, List.take_append_drop]; omega
  · rintro acc cs' ⟨rfl, rfl⟩
    rw [Nat.zero_add, List.take_length]
    exact hd
/-- a walk that starts with something made -/
theorem r_compA {g : WG} {R : List D → Cs → Prop} (p : D → Bool) (f : D → D) (acc0 : List D) {xs : List D}
    (hs : ∀ d (N : DP) (N' : Cs → Prop), d ∈ xs → (p d = true → N (f d) cs) → (p d = false → N' cs) → g d ρ fun ρ1 => wt ρ1 cs (fun b cs1 => (b = true → we ρ1 cs1 N Z0) ∧ (b = false → N' cs1)) Z0)
    (hd : R (acc0 ++ (xs.filter p).map f) cs) : compW g wt we xs ρ cs acc0 R := by
  refine r_compI (fun i acc cs' => acc = acc0 ++ ((xs.take i).filter p).map f ∧ cs' = cs) xs acc0 0 ⟨by simp, rfl⟩ ?_ ?_
  · rintro i d acc cs' N e ⟨rfl, rfl⟩ hN
    rw [Nat.zero_add] at hN ⊢
    refine hs d _ _ (List.mem_of_getElem? e) (fun h => hN _ _ ⟨?_, rfl⟩) (fun h => hN _ _ ⟨?_, rfl⟩)
    · rw [take_more e, List.filter_append, List.map_append, List.filter_cons_of_pos h, List.append_assoc]; rfl
    · rw [take_more e, List.filter_append, List.filter_cons_of_neg (by rw [h]; decide), List.filter_nil, List.append_nil]
  · rintro acc cs' ⟨rfl, rfl⟩
    rw [Nat.zero_add, List.take_length]
    exact hd
end
end DL

namespace DL
open PySem PySem.Spec PyProof.Rows L2
/-! ### tests that are known -/
section
variable {p : Prop} [Decidable p] {A B : Prop} {k : Bool}
theorem r_isT (hk : k = true) (h : A) : (k = true → A) ∧ (k = false → B) := ⟨fun _ => h, fun z => absurd (hk.symm.trans z) (by decide)⟩
theorem r_isF (hk : k = false) (h : B) : (k = true → A) ∧ (k = false → B) := ⟨fun z => absurd (hk.symm.trans z) (by decide), fun _ => h⟩
theorem r_pos (hp : p) (h : A) : (decide p = true → A) ∧ (decide p = false → B) := r_isT (decide_eq_true hp) h
theorem r_neg_ (hp : ¬ p) (h : B) : (decide p = true → A) ∧ (decide p = false → B) := r_isF (decide_eq_false hp) h
theorem r_npos (hp : p) (h : B) : ((!decide p) = true → A) ∧ ((!decide p) = false → B) := r_isF (by rw [decide_eq_true hp]; rfl) h
theorem r_nneg (hp : ¬ p) (h : A) : ((!decide p) = true → A) ∧ ((!decide p) = false → B) := r_isT (by rw [decide_eq_false hp]; rfl) h
end
theorem r_app11 {sp : DSp} {x0 y0 : D} {cs : Cs} {P : DP} {Z : XZ} (h : sp [x0, y0] cs P Z) : sp ([x0] ++ [y0]) cs P Z := h
theorem r_app12 {sp : DSp} {x0 y0 y1 : D} {cs : Cs} {P : DP} {Z : XZ} (h : sp [x0, y0, y1] cs P Z) : sp ([x0] ++ [y0, y1]) cs P Z := h
theorem r_app21 {sp : DSp} {x0 x1 y0 : D} {cs : Cs} {P : DP} {Z : XZ} (h : sp [x0, x1, y0] cs P Z) : sp ([x0, x1] ++ [y0]) cs P Z := h
theorem r_app22 {sp : DSp} {x0 x1 y0 y1 : D} {cs : Cs} {P : DP} {Z : XZ} (h : sp [x0, x1, y0, y1] cs P Z) : sp ([x0, x1] ++ [y0, y1]) cs P Z := h
theorem r_app31 {sp : DSp} {x0 x1 x2 y0 : D} {cs : Cs} {P : DP} {Z : XZ} (h : sp [x0, x1, x2, y0] cs P Z) : sp ([x0, x1, x2] ++ [y0]) cs P Z := h
theorem r_app32 {sp : DSp} {x0 x1 x2 y0 y1 : D} {cs : Cs} {P : DP} {Z : XZ} (h : sp [x0, x1, x2, y0, y1] cs P Z) : sp ([x0, x1, x2] ++ [y0, y1]) cs P Z := h
theorem r_app41 {sp : DSp} {x0 x1 x2 x3 y0 : D} {cs : Cs} {P : DP} {Z : XZ} (h : sp [x0, x1, x2, x3, y0] cs P Z) : sp ([x0, x1, x2, x3] ++ [y0]) cs P Z := h
theorem r_app42 {sp : DSp} {x0 x1 x2 x3 y0 y1 : D} {cs : Cs} {P : DP} {Z : XZ} (h : sp [x0, x1, x2, x3, y0, y1] cs P Z) : sp ([x0, x1, x2, x3] ++ [y0, y1]) cs P Z := h
theorem r_app51 {sp : DSp} {x0 x1 x2 x3 x4 y0 : D} {cs : Cs} {P : DP} {Z : XZ} (h : sp [x0, x1, x2, x3, x4, y0] cs P Z) : sp ([x0, x1, x2, x3, x4] ++ [y0]) cs P Z := h
theorem r_app52 {sp : DSp} {x0 x1 x2 x3 x4 y0 y1 : D} {cs : Cs} {P : DP} {Z : XZ} (h : sp [x0, x1, x2, x3, x4, y0, y1] cs P Z) : sp ([x0, x1, x2, x3, x4] ++ [y0, y1]) cs P Z := h
theorem r_dn1 {sp : DSp} {x0 : D} {cs : Cs} {P : DP} {Z : XZ} (h : sp [x0, sideD true] cs P Z) : sp [x0, .str "down"] cs P Z := h
theorem r_ac1 {sp : DSp} {x0 : D} {cs : Cs} {P : DP} {Z : XZ} (h : sp [x0, sideD false] cs P Z) : sp [x0, .str "across"] cs P Z := h
theorem r_dn2 {sp : DSp} {x0 x1 : D} {cs : Cs} {P : DP} {Z : XZ} (h : sp [x0, x1, sideD true] cs P Z) : sp [x0, x1, .str "down"] cs P Z := h
theorem r_ac2 {sp : DSp} {x0 x1 : D} {cs : Cs} {P : DP} {Z : XZ} (h : sp [x0, x1, sideD false] cs P Z) : sp [x0, x1, .str "across"] cs P Z := h
theorem r_dn3 {sp : DSp} {x0 x1 x2 : D} {cs : Cs} {P : DP} {Z : XZ} (h : sp [x0, x1, x2, sideD true] cs P Z) : sp [x0, x1, x2, .str "down"] cs P Z := h
theorem r_ac3 {sp : DSp} {x0 x1 x2 : D} {cs : Cs} {P : DP} {Z : XZ} (h : sp [x0, x1, x2, sideD false] cs P Z) : sp [x0, x1, x2, .str "across"] cs P Z := h
theorem r_dn4 {sp : DSp} {x0 x1 x2 x3 : D} {cs : Cs} {P : DP} {Z : XZ} (h : sp [x0, x1, x2, x3, sideD true] cs P Z) : sp [x0, x1, x2, x3, .str "down"] cs P Z := h
theorem r_ac4 {sp : DSp} {x0 x1 x2 x3 : D} {cs : Cs} {P : DP} {Z : XZ} (h : sp [x0, x1, x2, x3, sideD false] cs P Z) : sp [x0, x1, x2, x3, .str "across"] cs P Z := h
theorem r_dn5 {sp : DSp} {x0 x1 x2 x3 x4 : D} {cs : Cs} {P : DP} {Z : XZ} (h : sp [x0, x1, x2, x3, x4, sideD true] cs P Z) : sp [x0, x1, x2, x3, x4, .str "down"] cs P Z := h
theorem r_ac5 {sp : DSp} {x0 x1 x2 x3 x4 : D} {cs : Cs} {P : DP} {Z : XZ} (h : sp [x0, x1, x2, x3, x4, sideD false] cs P Z) : sp [x0, x1, x2, x3, x4, .str "across"] cs P Z := h
/-! ### statements, the way out written out -/
section
variable {ρ : DL.Env} {cs : Cs} {wa wb we wo wi wv : DL.WE} {w : WA} {ta : WT} {u v : WS} {i j l : Nat} {nx bk ct : DL.Env → Cs → Prop} {rt : D → Cs → Prop} {ex : Exn → DL.Env → Cs → Prop}
theorem q_sif (h : ta ρ cs (fun k cs1 => (k = true → u ⟨nx, rt, ex, bk, ct⟩ ρ cs1) ∧ (k = false → v ⟨nx, rt, ex, bk, ct⟩ ρ cs1)) (fun x cs1 => ex x ρ cs1)) : sIf ta u v ⟨nx, rt, ex, bk, ct⟩ ρ cs := h
theorem q_set (h : we ρ cs (fun d cs1 => nx (ρ.set i (some d)) cs1) (fun x cs1 => ex x ρ cs1)) : sAsg we (gN i) ⟨nx, rt, ex, bk, ct⟩ ρ cs := h
theorem q_asg {g : WG} (h : we ρ cs (fun d cs1 => g d ρ fun ρ' => nx ρ' cs1) (fun x cs1 => ex x ρ cs1)) : sAsg we g ⟨nx, rt, ex, bk, ct⟩ ρ cs := h
theorem q_ret (h : we ρ cs rt (fun x cs1 => ex x ρ cs1)) : sRet we ⟨nx, rt, ex, bk, ct⟩ ρ cs := h
theorem q_retN (h : rt .non cs) : sRetN ⟨nx, rt, ex, bk, ct⟩ ρ cs := h
theorem q_drop (h : we ρ cs (fun _ cs1 => nx ρ cs1) (fun x cs1 => ex x ρ cs1)) : sDrop we ⟨nx, rt, ex, bk, ct⟩ ρ cs := h
theorem q_next (h : nx ρ cs) : sNext ⟨nx, rt, ex, bk, ct⟩ ρ cs := h
theorem q_brk (h : bk ρ cs) : sBreak ⟨nx, rt, ex, bk, ct⟩ ρ cs := h
theorem q_ct (h : ct ρ cs) : sCont ⟨nx, rt, ex, bk, ct⟩ ρ cs := h
theorem q_par (h : wa ρ cs (fun x cs1 => wb ρ cs1 (fun y cs2 => nx ((ρ.set i (some x)).set j (some y)) cs2) (fun x cs1 => ex x ρ cs1)) (fun x cs1 => ex x ρ cs1)) : sPar i j (wCons wa (wCons wb wNil)) ⟨nx, rt, ex, bk, ct⟩ ρ cs := h
theorem q_setix (h : wv ρ cs (fun v cs1 => wo ρ cs1 (fun x cs2 => wi ρ cs2 (fun i cs3 => oSetL x i v cs3 fun cs4 => nx ρ cs4) (fun x cs1 => ex x ρ cs1)) (fun x cs1 => ex x ρ cs1)) (fun x cs1 => ex x ρ cs1)) : sSetIx wv wo wi oSetL ⟨nx, rt, ex, bk, ct⟩ ρ cs := h
theorem q_aug {o : DO2} {x : D} (hi : ρ[i]? = some (some x)) (h : we ρ cs (fun y cs1 => o x y cs1 fun z cs2 => nx (ρ.set i (some z)) cs2) (fun x cs1 => ex x ρ cs1)) : sAug i o we ⟨nx, rt, ex, bk, ct⟩ ρ cs := r_aug hi h
theorem q_for {wi : WI} {g : WG} (h : wi ρ cs (fun xs cs1 => loopW g u ⟨nx, rt, ex, bk, ct⟩ xs ρ cs1) (fun x cs1 => ex x ρ cs1)) : sFor wi g u ⟨nx, rt, ex, bk, ct⟩ ρ cs := h
theorem q_par3 (h : w ρ cs (fun ds cs1 => match ds with
  | [x, y, z] => nx (((ρ.set i (some x)).set j (some y)).set l (some z)) cs1
  | _ => False) (fun x cs1 => ex x ρ cs1)) : sPar3 i j l w ⟨nx, rt, ex, bk, ct⟩ ρ cs := h
end
/-! ### what kind of reading stands there -/
section
variable {ρ : DL.Env} {cs : Cs} {P : DP} {Z : XZ} {x y z : D} {ds : List D}
theorem g_s {u : WS} {f : Fin} (h : u f ρ cs) : u f ρ cs := h
theorem g_e {u : DL.WE} (h : u ρ cs P Z) : u ρ cs P Z := h
theorem g_t {u : WT} {Q : Bool → Cs → Prop} (h : u ρ cs Q Z) : u ρ cs Q Z := h
theorem g_a {u : WA} {Q : List D → Cs → Prop} (h : u ρ cs Q Z) : u ρ cs Q Z := h
theorem g_o {u : WO} {Q : Option Int → Cs → Prop} (h : u ρ cs Q Z) : u ρ cs Q Z := h
theorem g_2 {o : DO2} (h : o x y cs P) : o x y cs P := h
theorem g_n {o : DOn} (h : o ds cs P) : o ds cs P := h
theorem g_p {o : DSp} (h : o ds cs P Z) : o ds cs P Z := h
theorem g_m {o : DMt} (h : o x ds cs P) : o x ds cs P := h
theorem g_g {g : WG} {k : DL.Env → Prop} (h : g x ρ k) : g x ρ k := h
theorem g_gs {g : WGs} {k : DL.Env → Prop} (h : g ds ρ k) : g ds ρ k := h
theorem g_w {o : DSet} {k : Cs → Prop} (h : o x y z cs k) : o x y z cs k := h
theorem g_c {A B : Prop} (h : A ∧ B) : A ∧ B := h
end
/-! ### walks, the break's way a letter -/
section
variable {α : Type} {ρ : DL.Env} {cs : Cs} {nx bk ct : DL.Env → Cs → Prop} {rt : D → Cs → Prop} {ex : Exn → DL.Env → Cs → Prop} {gd : WG} {wb : WS}
theorem r_loopX (I : Nat → DL.Env → Cs → Prop) {xs : List D} (h0 : I 0 ρ cs)
    (hs : ∀ i d ρ cs (N B : DL.Env → Cs → Prop), xs[i]? = some d → I i ρ cs → (∀ ρ' cs', I (i + 1) ρ' cs' → N ρ' cs') → (∀ ρ' cs', nx ρ' cs' → B ρ' cs') → gd d ρ fun ρ1 => wb ⟨N, rt, ex, B, N⟩ ρ1 cs)
    (hd : ∀ ρ cs, I xs.length ρ cs → nx ρ cs) : loopW gd wb ⟨nx, rt, ex, bk, ct⟩ xs ρ cs := r_loop0 I h0 (fun i d ρ cs N e hi hN => hs i d ρ cs N nx e hi hN fun _ _ h => h) hd
theorem r_whileX {wt : WT} (I : Nat → DL.Env → Cs → Prop) (h0 : ∃ m, I m ρ cs)
    (hs : ∀ m ρ cs (N B : DL.Env → Cs → Prop), I m ρ cs → (∀ m' ρ' cs', m' < m → I m' ρ' cs' → N ρ' cs') → (∀ ρ' cs', nx ρ' cs' → B ρ' cs') → wt ρ cs (fun k cs1 => (k = true → wb ⟨N, rt, ex, B, N⟩ ρ cs1) ∧ (k = false → B ρ cs1)) (fun x cs1 => ex x ρ cs1)) :
    sWhile wt wb ⟨nx, rt, ex, bk, ct⟩ ρ cs := r_while I h0 fun m ρ cs N hi hN => hs m ρ cs N nx hi hN fun _ _ h => h
end
/-! ### walks over l.map g -/
section
variable {α : Type} {ρ : DL.Env} {cs : Cs} {we : DL.WE} {wt : WT}
theorem r_loopL {nx bk ct : DL.Env → Cs → Prop} {rt : D → Cs → Prop} {ex : Exn → DL.Env → Cs → Prop} {gd : WG} {wb : WS} (I : Nat → DL.Env → Cs → Prop) {l : List α} {g : α → D} (h0 : I 0 ρ cs)
    (hs : ∀ i a ρ cs (N : DL.Env → Cs → Prop), l[i]? = some a → I i ρ cs → (∀ ρ' cs', I (i + 1) ρ' cs' → N ρ' cs') → gd (g a) ρ fun ρ1 => wb ⟨N, rt, ex, nx, N⟩ ρ1 cs)
    (hd : ∀ ρ cs, I l.length ρ cs → nx ρ cs) : loopW gd wb ⟨nx, rt, ex, bk, ct⟩ (l.map g) ρ cs := by
  refine r_loop0 I h0 (fun i d ρ cs N e hi hN => ?_) (fun ρ cs h => hd ρ cs (by rw [List.length_map] at h; exact h))
  rw [List.getElem?_map] at e
  obtain ⟨a, e1, rfl⟩ := Option.map_eq_some_iff.mp e
  exact hs i a ρ cs N e1 hi hN
theorem r_cfm {gd : WG} {R : List D → Cs → Prop} {l : List α} {g : α → D} (p : α → Bool) (f : α → D)
    (hs : ∀ a (N : DP) (N' : Cs → Prop), a ∈ l → (p a = true → N (f a) cs) → (p a = false → N' cs) → gd (g a) ρ fun ρ1 => wt ρ1 cs (fun b cs1 => (b = true → we ρ1 cs1 N Z0) ∧ (b = false → N' cs1)) Z0)
    (hd : R ((l.filter p).map f) cs) : compW gd wt we (l.map g) ρ cs [] R := by
  refine r_comp0 (fun i acc cs' => acc = ((l.take i).filter p).map f ∧ cs' = cs) ⟨rfl, rfl⟩ ?_ ?_
  · rintro i d acc cs' N e ⟨rfl, rfl⟩ hN
    rw [List.getElem?_map] at e
    obtain ⟨a, e1, rfl⟩ := Option.map_eq_some_iff.mp e
    refine hs a _ _ (List.mem_of_getElem? e1) (fun h => hN _ _ ⟨?_, rfl⟩) (fun h => hN _ _ ⟨?_, rfl⟩)
    · rw [take_more e1, List.filter_append, List.map_append, List.filter_cons_of_pos h]; rfl
    · rw [take_more e1, List.filter_append, List.filter_cons_of_neg (by rw [h]; decide), List.filter_nil, List.append_nil]
  · rintro acc cs' ⟨rfl, rfl⟩
    rw [List.length_map, List.take_length]
    exact hd
theorem r_cm {gd : WG} {R : List D → Cs → Prop} {l : List α} {g : α → D} (f : α → D)
    (hs : ∀ a (N : DP) (N' : Cs → Prop), a ∈ l → N (f a) cs → gd (g a) ρ fun ρ1 => wt ρ1 cs (fun b cs1 => (b = true → we ρ1 cs1 N Z0) ∧ (b = false → N' cs1)) Z0)
    (hd : R (l.map f) cs) : compW gd wt we (l.map g) ρ cs [] R := by
  refine r_cfm (fun _ => true) f (fun a N N' h h1 h2 => hs a N N' h (h1 rfl)) ?_
  rw [List.filter_eq_self.mpr fun _ _ => rfl]
  exact hd
theorem r_cmA {gd : WG} {R : List D → Cs → Prop} {l : List α} {g : α → D} (f : α → D) (acc0 : List D)
    (hs : ∀ a (N : DP) (N' : Cs → Prop), a ∈ l → N (f a) cs → gd (g a) ρ fun ρ1 => wt ρ1 cs (fun b cs1 => (b = true → we ρ1 cs1 N Z0) ∧ (b = false → N' cs1)) Z0)
    (hd : R (acc0 ++ l.map f) cs) : compW gd wt we (l.map g) ρ cs acc0 R := by
  refine r_compI (fun i acc cs' => acc = acc0 ++ (l.take i).map f ∧ cs' = cs) (l.map g) acc0 0 ⟨by simp, rfl⟩ ?_ ?_
  · rintro i d acc cs' N e ⟨rfl, rfl⟩ hN
    rw [Nat.zero_add] at hN ⊢
    rw [List.getElem?_map] at e
    obtain ⟨a, e1, rfl⟩ := Option.map_eq_some_iff.mp e
    refine hs a _ _ (List.mem_of_getElem? e1) (hN _ _ ⟨?_, rfl⟩)
    rw [take_more e1, List.map_append, List.append_assoc]; rfl
  · rintro acc cs' ⟨rfl, rfl⟩
    rw [Nat.zero_add, List.length_map, List.take_length]
    exact hd
/-- two generators over l.map g, nothing changes: each a makes the list f a -/
theorem r_c2m {wt1 : WT} {wi1 : WI} {gd g1 : WG} {vs1 : List Nat} {R : List D → Cs → Prop} {l : List α} {g : α → D} (f : α → List D)
    (hs : ∀ a acc (N : List D → Cs → Prop), a ∈ l → N (acc ++ f a) cs → acc.length + (f a).length ≤ (l.flatMap f).length → gd (g a) ρ fun ρ1 => wt ρ1 cs (fun b cs1 => (b = true → wi1 ρ1 cs1 (fun ys cs2 => acc.length + ys.length ≤ 100000 ∧ compW g1 wt1 we ys (wipeD ρ1 vs1) cs2 acc N) Z0) ∧ (b = false → N acc cs1)) Z0)
    (hd : R (l.flatMap f) cs) : compW2 gd wt wi1 g1 wt1 we vs1 (l.map g) ρ cs [] R := by
  refine r_comp2I (fun i acc cs' => acc = (l.take i).flatMap f ∧ cs' = cs) (l.map g) [] 0 ⟨rfl, rfl⟩ ?_ ?_
  · rintro i d acc cs' N e ⟨rfl, rfl⟩ hN
    rw [Nat.zero_add] at hN ⊢
    rw [List.getElem?_map] at e
    obtain ⟨a, e1, rfl⟩ := Option.map_eq_some_iff.mp e
    have e3 : (l.take (i + 1)).flatMap f = (l.take i).flatMap f ++ f a := by rw [take_more e1, List.flatMap_append]; simp
    refine hs a _ _ (List.mem_of_getElem? e1) (hN _ _ ⟨e3.symm, rfl⟩) ?_
    have e2 : (l.flatMap f).length = ((l.take (i + 1)).flatMap f).length + ((l.drop (i + 1)).flatMap f).length := by rw [← List.length_append, ← List.flatMap_append, List.take_append_drop]
    rw [e2, e3, List.length_append]; omega
  · rintro acc cs' ⟨rfl, rfl⟩
    rw [Nat.zero_add, List.length_map, List.take_length]
    exact hd
theorem r_loopE {nx bk ct : DL.Env → Cs → Prop} {rt : D → Cs → Prop} {ex : Exn → DL.Env → Cs → Prop} {gd : WG} {wb : WS} {xs : List D} (I : Nat → DL.Env → Cs → Prop) {l : List α} {g : α → D} (e : xs = l.map g) (h0 : I 0 ρ cs)
    (hs : ∀ i a ρ cs (N : DL.Env → Cs → Prop), l[i]? = some a → I i ρ cs → (∀ ρ' cs', I (i + 1) ρ' cs' → N ρ' cs') → gd (g a) ρ fun ρ1 => wb ⟨N, rt, ex, nx, N⟩ ρ1 cs)
    (hd : ∀ ρ cs, I l.length ρ cs → nx ρ cs) : loopW gd wb ⟨nx, rt, ex, bk, ct⟩ xs ρ cs := by subst e; exact r_loopL I h0 hs hd
theorem r_cfmE {gd : WG} {R : List D → Cs → Prop} {xs : List D} {l : List α} {g : α → D} (e : xs = l.map g) (p : α → Bool) (f : α → D)
    (hs : ∀ a (N : DP) (N' : Cs → Prop), a ∈ l → (p a = true → N (f a) cs) → (p a = false → N' cs) → gd (g a) ρ fun ρ1 => wt ρ1 cs (fun b cs1 => (b = true → we ρ1 cs1 N Z0) ∧ (b = false → N' cs1)) Z0)
    (hd : R ((l.filter p).map f) cs) : compW gd wt we xs ρ cs [] R := by subst e; exact r_cfm p f hs hd
theorem r_cmE {gd : WG} {R : List D → Cs → Prop} {xs : List D} {l : List α} {g : α → D} (e : xs = l.map g) (f : α → D)
    (hs : ∀ a (N : DP) (N' : Cs → Prop), a ∈ l → N (f a) cs → gd (g a) ρ fun ρ1 => wt ρ1 cs (fun b cs1 => (b = true → we ρ1 cs1 N Z0) ∧ (b = false → N' cs1)) Z0)
    (hd : R (l.map f) cs) : compW gd wt we xs ρ cs [] R := by subst e; exact r_cm f hs hd
theorem r_c2mE {wt1 : WT} {wi1 : WI} {gd g1 : WG} {vs1 : List Nat} {R : List D → Cs → Prop} {xs : List D} {l : List α} {g : α → D} (e : xs = l.map g) (f : α → List D)
    (hs : ∀ a acc (N : List D → Cs → Prop), a ∈ l → N (acc ++ f a) cs → acc.length + (f a).length ≤ (l.flatMap f).length → gd (g a) ρ fun ρ1 => wt ρ1 cs (fun b cs1 => (b = true → wi1 ρ1 cs1 (fun ys cs2 => acc.length + ys.length ≤ 100000 ∧ compW g1 wt1 we ys (wipeD ρ1 vs1) cs2 acc N) Z0) ∧ (b = false → N acc cs1)) Z0)
    (hd : R (l.flatMap f) cs) : compW2 gd wt wi1 g1 wt1 we vs1 xs ρ cs [] R := by subst e; exact r_c2m f hs hd
theorem r_loopEX {nx bk ct : DL.Env → Cs → Prop} {rt : D → Cs → Prop} {ex : Exn → DL.Env → Cs → Prop} {gd : WG} {wb : WS} {xs : List D} (I : Nat → DL.Env → Cs → Prop) {l : List α} {g : α → D} (e : xs = l.map g) (h0 : I 0 ρ cs)
    (hs : ∀ i a ρ cs (N B : DL.Env → Cs → Prop), l[i]? = some a → I i ρ cs → (∀ ρ' cs', I (i + 1) ρ' cs' → N ρ' cs') → (∀ ρ' cs', nx ρ' cs' → B ρ' cs') → gd (g a) ρ fun ρ1 => wb ⟨N, rt, ex, B, N⟩ ρ1 cs)
    (hd : ∀ ρ cs, I l.length ρ cs → nx ρ cs) : loopW gd wb ⟨nx, rt, ex, bk, ct⟩ xs ρ cs := by subst e; exact r_loopL I h0 (fun i d ρ cs N e hi hN => hs i d ρ cs N nx e hi hN fun _ _ h => h) hd
theorem r_loopLX {nx bk ct : DL.Env → Cs → Prop} {rt : D → Cs → Prop} {ex : Exn → DL.Env → Cs → Prop} {gd : WG} {wb : WS} (I : Nat → DL.Env → Cs → Prop) {l : List α} {g : α → D} (h0 : I 0 ρ cs)
    (hs : ∀ i a ρ cs (N B : DL.Env → Cs → Prop), l[i]? = some a → I i ρ cs → (∀ ρ' cs', I (i + 1) ρ' cs' → N ρ' cs') → (∀ ρ' cs', nx ρ' cs' → B ρ' cs') → gd (g a) ρ fun ρ1 => wb ⟨N, rt, ex, B, N⟩ ρ1 cs)
    (hd : ∀ ρ cs, I l.length ρ cs → nx ρ cs) : loopW gd wb ⟨nx, rt, ex, bk, ct⟩ (l.map g) ρ cs := r_loopEX I rfl h0 hs hd
theorem r_zip {w : WA} {Z : XZ} {R : List D → Cs → Prop} (h : w ρ cs (fun ds cs1 => match ds with | [.lst xs, .lst ys] => R (List.zipWith (fun d e => D.tup [d, e]) xs ys) cs1 | [.tup xs, .tup ys] => R (List.zipWith (fun d e => D.tup [d, e]) xs ys) cs1 | _ => False) Z) : iZp w ρ cs R Z := h
theorem zip_map {β γ : Type} (f : α → β) (g : α → γ) (l : List α) {δ : Type} (h : β → γ → δ) : List.zipWith h (l.map f) (l.map g) = l.map fun a => h (f a) (g a) := by
  induction l with
  | nil => rfl
  | cons a l ih => simp [ih]
end
/-! ### the bag under other things that change -/
section
variable {p q : Addr} {m : MO} {cs cs' : Cs}
theorem BagIn.ne (h : BagIn p cs) (hq : q ∉ adr cs) : p ≠ q := fun z => by
  obtain ⟨b, e, _⟩ := h
  exact hq (z ▸ List.mem_map.mpr ⟨(p, b), look_mem e, rfl⟩)
theorem BagIn.over (hn : p ≠ q) (h : BagIn p cs) : BagIn p ((q, m) :: cs) := by
  obtain ⟨b, e, hb⟩ := h
  exact ⟨b, by unfold look; rw [if_neg (Ne.symm hn)]; exact e, hb⟩
theorem BagIn.under (hn : p ≠ q) (h : BagIn p ((q, m) :: cs)) : BagIn p cs := by
  obtain ⟨b, e, hb⟩ := h
  refine ⟨b, ?_, hb⟩
  unfold look at e
  rw [if_neg (Ne.symm hn)] at e
  exact e
theorem BagStep.under (hn : p ≠ q) (h : BagStep p ((q, m) :: cs) cs') : ∃ cs0, cs' = (q, m) :: cs0 ∧ BagStep p cs cs0 := by
  obtain ⟨b, e⟩ := h.eq
  have e2 : put p b ((q, m) :: cs) = (q, m) :: put p b cs := by
    rw [put, if_neg (Ne.symm hn)]
  rw [e2] at e
  subst e
  exact ⟨_, rfl, h.bag.under hn, b, rfl⟩
theorem BagStep.adr (h : BagStep p cs cs') : adr cs' = adr cs := by
  obtain ⟨b, e⟩ := h.eq
  rw [e, adr_put]
end
/-- weights: a list or a tuple -/
def WD (wd : D) (ws : List Int) : Prop := wd = .lst (ws.map D.int) ∨ wd = .tup (ws.map D.int)
theorem WD.l (ws : List Int) : WD (.lst (ws.map D.int)) ws := .inl rfl
theorem WD.t (ws : List Int) : WD (.tup (ws.map D.int)) ws := .inr rfl
theorem r_lenW {wd : D} {ws : List Int} (h : WD wd ws) {cs : Cs} {P : DP} (hq : P (.int (ws.length : Int)) cs) : oLen [wd] cs P := by
  rcases h with rfl | rfl
  · exact r_lenL (by rw [List.length_map]; exact hq)
  · exact r_lenT (by rw [List.length_map]; exact hq)
theorem r_sumW {wd : D} {ws : List Int} (h : WD wd ws) {cs : Cs} {P : DP} (hq : P (.int ws.sum) cs) : oSumA [wd] cs P := by
  rcases h with rfl | rfl
  · exact ⟨ws, .inl rfl, hq⟩
  · exact ⟨ws, .inr rfl, hq⟩
/-! ### things cut into rows -/
theorem sIx_int {n : Nat} {a : Int} (h0 : 0 ≤ a) (h : a ≤ n) (d : Nat) : HT.sIx n d (some a) = a.toNat := by
  obtain ⟨k, rfl⟩ : ∃ k : Nat, a = k := ⟨a.toNat, by omega⟩
  rw [HT.sIx_nat]; omega
theorem cutD_int {xs : List D} {a b : Int} (h0 : 0 ≤ a) (h1 : a ≤ b) (h2 : b ≤ xs.length) : cutD xs (some a) (some b) = (xs.drop a.toNat).take (b - a).toNat := by
  unfold cutD
  rw [sIx_int h0 (by omega), sIx_int (by omega) h2]
  congr 1
  omega
/-- the sizes of rows of n things -/
structure SzOk (zs : List Int) (n : Nat) : Prop where
  pos : ∀ z ∈ zs, 1 ≤ z
  sum : zs.sum = n
def rowAt {α : Type} (xs : List α) (zs : List Int) (i : Nat) : List α := (xs.drop (preS zs i).toNat).take (zs.getD i 0).toNat
def rowsOf {α : Type} (xs : List α) (zs : List Int) : List (List α) := (List.range zs.length).map (rowAt xs zs)
theorem getD_of {zs : List Int} {i : Nat} {z : Int} (h : zs[i]? = some z) : zs.getD i 0 = z := by
  rw [List.getD_eq_getElem?_getD, h]; rfl
theorem rowAt_map {α β : Type} (f : α → β) (xs : List α) (zs : List Int) (i : Nat) : rowAt (xs.map f) zs i = (rowAt xs zs i).map f := by
  unfold rowAt; rw [List.map_take, List.map_drop]
theorem rowsOf_map {α β : Type} (f : α → β) (xs : List α) (zs : List Int) : rowsOf (xs.map f) zs = (rowsOf xs zs).map (List.map f) := by
  unfold rowsOf
  rw [List.map_map]
  exact List.map_congr_left fun i _ => rowAt_map f xs zs i
theorem SzOk.pre_le {zs : List Int} {n : Nat} (h : SzOk zs n) (i : Nat) : preS zs i ≤ n := by rw [← h.sum]; exact preS_le h.pos i
theorem SzOk.len {zs : List Int} {n : Nat} (h : SzOk zs n) : zs.length ≤ n := by
  have := len_le_sum h.pos
  have := h.sum
  omega
theorem row_len {α : Type} {xs : List α} {zs : List Int} (h : SzOk zs xs.length) {i : Nat} {z : Int} (hz : zs[i]? = some z) : (rowAt xs zs i).length = z.toNat := by
  unfold rowAt
  have h1 := preS_nonneg h.pos i
  have h2 := h.pre_le (i + 1)
  rw [preS_succ hz] at h2
  rw [List.length_take, List.length_drop, getD_of hz]
  omega
/-- the rows make the whole -/
theorem rows_take {α : Type} {xs : List α} {zs : List Int} (hp : ∀ z ∈ zs, 1 ≤ z) : ∀ i, i ≤ zs.length → (List.range i).flatMap (rowAt xs zs) = xs.take (preS zs i).toNat
  | 0, _ => by rw [preS_zero]; rfl
  | i + 1, hi => by
    have hz : zs[i]? = some zs[i] := List.getElem?_eq_getElem (by omega)
    have h1 := preS_nonneg hp i
    have h2 := hp _ (List.mem_of_getElem? hz)
    rw [List.range_succ, List.flatMap_append, rows_take hp i (by omega), preS_succ hz]
    have e : (preS zs i + zs[i]).toNat = (preS zs i).toNat + zs[i].toNat := by omega
    rw [e, List.take_add, List.flatMap_cons, List.flatMap_nil, List.append_nil]
    unfold rowAt
    rw [getD_of hz]
theorem rows_all {α : Type} {xs : List α} {zs : List Int} (h : SzOk zs xs.length) : (List.range zs.length).flatMap (rowAt xs zs) = xs := by
  rw [rows_take h.pos _ (Nat.le_refl _), preS_len, h.sum]
  exact List.take_of_length_le (by omega)
theorem row_mem {α : Type} {xs : List α} {zs : List Int} {i : Nat} {x : α} (h : x ∈ rowAt xs zs i) : x ∈ xs := List.mem_of_mem_drop (List.mem_of_mem_take h)
/-- the weights of the rows -/
def sumsOf (ws : List Int) (zs : List Int) : List Int := (List.range zs.length).map fun i => (rowAt ws zs i).sum
theorem sums_len (ws zs : List Int) : (sumsOf ws zs).length = zs.length := by simp [sumsOf]
theorem sums_get {ws zs : List Int} {i : Nat} (h : i < zs.length) : (sumsOf ws zs)[i]? = some (rowAt ws zs i).sum := by
  unfold sumsOf
  rw [List.getElem?_map, List.getElem?_range h]; rfl
theorem sum_flatMap {α : Type} (f : α → List Int) : ∀ l : List α, (l.flatMap f).sum = (l.map fun i => (f i).sum).sum
  | [] => rfl
  | a :: l => by rw [List.flatMap_cons, List.sum_append, sum_flatMap f l]; rfl
theorem sums_sum {ws zs : List Int} (h : SzOk zs ws.length) : (sumsOf ws zs).sum = ws.sum := by
  unfold sumsOf
  rw [← sum_flatMap, rows_all h]
theorem row_wok {ws zs : List Int} (hw : WOk ws) (h : SzOk zs ws.length) {i : Nat} (hi : i < zs.length) : WOk (rowAt ws zs i) := by
  have hz : zs[i]? = some zs[i] := List.getElem?_eq_getElem hi
  have hl := row_len h hz
  have hp := h.pos _ (List.mem_of_getElem? hz)
  have pos : ∀ w ∈ rowAt ws zs i, 1 ≤ w := fun w hw' => hw.pos w (row_mem hw')
  have h1 := mem_le_sum (ws := sumsOf ws zs) (i := i) (w := (rowAt ws zs i).sum) (fun w hm => by
    obtain ⟨j, hj, rfl⟩ := List.mem_map.mp hm
    have hj' := List.mem_range.mp hj
    have hzj : zs[j]? = some zs[j] := List.getElem?_eq_getElem hj'
    have := len_le_sum (ws := rowAt ws zs j) fun w hw' => hw.pos w (row_mem hw')
    have := row_len h hzj
    have := h.pos _ (List.mem_of_getElem? hzj)
    omega) (sums_get hi)
  rw [sums_sum h] at h1
  refine ⟨by omega, ?_, pos, by have := hw.sum; omega⟩
  have := h.pre_le (i + 1)
  have := preS_nonneg h.pos i
  rw [preS_succ hz] at *
  have := hw.l1
  omega
theorem sums_wok {ws zs : List Int} (hw : WOk ws) (h : SzOk zs ws.length) : WOk (sumsOf ws zs) := by
  have h0 : 0 < zs.length := by
    cases zs with
    | nil => have := h.sum; have := hw.l0; simp at *; omega
    | cons _ _ => simp
  refine ⟨by rw [sums_len]; exact h0, by rw [sums_len]; have := h.len; have := hw.l1; omega, ?_, by rw [sums_sum h]; exact hw.sum⟩
  intro w hm
  obtain ⟨j, hj, rfl⟩ := List.mem_map.mp hm
  have hj' := List.mem_range.mp hj
  have := (row_wok hw h hj').sum_pos
  omega
theorem boxD_Bx {b : Bx} (hp : b.Pos) : boxD b.d = true := by
  unfold Bx.d
  rw [boxD_dB, decide_eq_true hp.w, decide_eq_true hp.h]; rfl
theorem r_flatB {k : Bool} {A : Prop} (h : A) : flatD (.bl k) = true ∧ A := ⟨rfl, h⟩
theorem r_flatT {xs : List D} {A : Prop} (hf : flatD (.tup xs) = true) (h : A) : flatD (.tup xs) = true ∧ A := ⟨hf, h⟩
/-- the boxes of rows -/
def laidAt (b : Bx) (ws zs : List Int) (dn : Bool) (i : Nat) : List Bx := splitB (splitAt_ b (sumsOf ws zs) dn i) (rowAt ws zs i) (!dn)
theorem laidAt_len (b : Bx) (ws zs : List Int) (dn : Bool) (i : Nat) : (laidAt b ws zs dn i).length = (rowAt ws zs i).length := split_len _ _ _
def laidB (b : Bx) (ws zs : List Int) (dn : Bool) : List Bx := (List.range zs.length).flatMap (laidAt b ws zs dn)
theorem laid_pre (b : Bx) {ws zs : List Int} (dn : Bool) (h : SzOk zs ws.length) {i : Nat} (hi : i ≤ zs.length) : ((List.range i).flatMap (laidAt b ws zs dn)).length = (ws.take (preS zs i).toNat).length := by
  have e : ∀ l : List Nat, (l.flatMap (laidAt b ws zs dn)).length = (l.flatMap (rowAt ws zs)).length := by
    intro l
    induction l with
    | nil => rfl
    | cons a l ih => rw [List.flatMap_cons, List.flatMap_cons, List.length_append, List.length_append, ih, laidAt_len]
  rw [e, rows_take h.pos i hi]
theorem laid_len (b : Bx) {ws zs : List Int} (dn : Bool) (h : SzOk zs ws.length) : (laidB b ws zs dn).length = ws.length := by
  unfold laidB
  rw [laid_pre b dn h (Nat.le_refl _), preS_len, h.sum]
  simp
theorem flat_more {α β : Type} (f : Nat → List α) (g : α → β) (i : Nat) : ((List.range i).flatMap f).map g ++ (f i).map g = ((List.range (i + 1)).flatMap f).map g := by
  rw [List.range_succ, List.flatMap_append, List.map_append]
  simp
theorem range_get {n i j : Nat} (h : (List.range n)[i]? = some j) : i < n ∧ i = j := by
  obtain ⟨h1, h2⟩ := List.getElem?_eq_some_iff.mp h
  rw [List.length_range] at h1
  exact ⟨h1, by simpa using h2⟩
end DL

/-! DLL: lists, data or changing: len, list, tuple, +, sorted, any, clear, pop(i). -/
namespace DL
open PySem PySem.Spec PyProof.Rows L2
/-- what stands in a list, data or changing -/
def lstOf (cs : Cs) : D → Option (List D)
  | .lst xs => some xs
  | .opq (.ref p) => (match look p cs with
    | some (.lst xs) => some xs
    | _ => none)
  | _ => none
theorem lstOf_l (cs : Cs) (xs : List D) : lstOf cs (.lst xs) = some xs := rfl
theorem lstOf_m {cs : Cs} {p : Addr} {xs : List D} (h : look p cs = some (.lst xs)) : lstOf cs (.opq (.ref p)) = some xs := by
  unfold lstOf
  simp only [h]
theorem lstOf_h {cs : Cs} {p : Addr} {xs : List D} : lstOf ((p, .lst xs) :: cs) (.opq (.ref p)) = some xs := lstOf_m look_hd
section
variable {X : Cx} {W : WX} {K : PySem.W.Frag} {σ : L2.St} {H : Hp} {a b : Expr} {wa wb : DL.WE} {pos : Pos}
theorem lstOf_sq {F G0 : Hp} {cs : Cs} {x : V} {d : D} {xs : List D} (s : Sta K F G0 cs H) (r : Rep K (pur F cs H) x d) (h : lstOf cs d = some xs) : ∃ p vs, x = .ref p ∧ SqL K H p vs ∧ RepL K (pur F cs H) vs xs := by
  cases d <;> try (cases h)
  · cases r with
    | lst h r => exact ⟨_, _, rfl, ex_l pur_le h, r⟩
  · rename_i v
    cases v <;> try (cases h)
    rename_i p
    cases r
    have h' : (match look p cs with
      | some (.lst xs) => some xs
      | _ => none) = some xs := h
    split at h'
    · rename_i ys e
      cases h'
      obtain ⟨vs, e1, e2⟩ := lst_at s e
      exact ⟨p, vs, rfl, SqL.of e1, e2⟩
    · cases h'
def rCatQ (K : PySem.W.Frag) : R2 := fun x y H Q => ∃ a b xs ys, x = .ref a ∧ y = .ref b ∧ SqL K H a xs ∧ SqL K H b ys ∧ xs.length + ys.length ≤ sizeLine ∧ ∀ p, H p = none → Q (.ref p) (upd H p (.lst (xs ++ ys)))
theorem op_catQ : OpR X (binaryOp .Add) (rCatQ X.K) := by
  intro pins s σ H x y v u Q I rx ry h
  obtain ⟨l, b, xs, zs, rfl, rfl, hH, hB, hz, q⟩ := h
  cases rx
  cases ry
  obtain ⟨its, r, pl, _⟩ := I.list hH
  obtain ⟨its2, r2, pl2, _⟩ := I.list hB
  obtain ⟨⟨cls, dd, data, sl⟩, n, ho, hc, hdd, hd⟩ := pl
  obtain ⟨⟨cls2, dd2, data2, sl2⟩, n2, ho2, hc2, hdd2, hd2⟩ := pl2
  simp only at hc hd hc2 hd2
  subst hc hd hc2 hd2
  have l1 := r.length
  have l2 := r2.length
  refine concat_meets ⟨_, ho, rfl⟩ ⟨_, ho2, rfl⟩ noFill_list_add seq_list_add PySem.F.slot_list_add PySem.F.entry_list_add (PySem.F.args_list_add_2 _ _) (list_addW l b its.toArray its2.toArray n n2 dd dd2 sl sl2 (by rw [List.size_toArray, List.size_toArray]; omega)) ⟨ho, ho2, ?_⟩
  have ea : its.toArray ++ its2.toArray = (its ++ its2).toArray := by simp
  rw [ea]
  exact ⟨.ref _, _, I.lnew (t' := s.toks) (r.append r2) (by rw [List.length_append]; omega), rfl, q _ I.fresh⟩
def oCatL : DO2 := fun x y cs P => ∃ xs ys, lstOf cs x = some xs ∧ lstOf cs y = some ys ∧ xs.length + ys.length ≤ 100000 ∧ P (.lst (xs ++ ys)) cs
def oCatM : DO2 := fun x y cs P => ∃ xs ys, lstOf cs x = some xs ∧ lstOf cs y = some ys ∧ xs.length + ys.length ≤ 100000 ∧ ∀ p, p ∉ adr cs → P (.opq (.ref p)) ((p, .lst (xs ++ ys)) :: cs)
theorem adq_catL : Adq K (rCatQ K) oCatL := fun F cs H x y dx dy P Q s rx ry ho pe => by
  obtain ⟨xs, ys, e1, e2, hl, h⟩ := ho
  obtain ⟨p, vs, rfl, h1, r1⟩ := lstOf_sq s rx e1
  obtain ⟨q, us, rfl, h2, r2⟩ := lstOf_sq s ry e2
  refine ⟨_, _, _, _, rfl, rfl, h1, h2, by rw [r1.length, r2.length]; exact Nat.le_trans hl (by decide), fun p hp => ?_⟩
  obtain ⟨s2, e2⟩ := s.new (o := .lst (vs ++ us)) hp
  exact pe _ cs _ _ s2 (.lst (SqL.of e2) ((r1.append r2).mono s2.gr)) h
theorem adq_catM : Adq K (rCatQ K) oCatM := fun F cs H x y dx dy P Q s rx ry ho pe => by
  obtain ⟨xs, ys, e1, e2, hl, h⟩ := ho
  obtain ⟨p, vs, rfl, h1, r1⟩ := lstOf_sq s rx e1
  obtain ⟨q, us, rfl, h2, r2⟩ := lstOf_sq s ry e2
  refine ⟨_, _, _, _, rfl, rfl, h1, h2, by rw [r1.length, r2.length]; exact Nat.le_trans hl (by decide), fun p hp => ?_⟩
  have s2 := s.newM (m := .lst (xs ++ ys)) (o := .lst (vs ++ us)) hp (r1.append r2)
  exact pe _ _ _ _ s2 (.opq _) (h p (s.notin hp).2)
theorem d_catL (ha : DE X W a wa) (hb : DE X W b wb) : DE X W (.BinOp a .Add b pos) (wOp oCatL wa wb) := d_op op_catQ adq_catL ha hb
theorem d_catM (ha : DE X W a wa) (hb : DE X W b wb) : DE X W (.BinOp a .Add b pos) (wOp oCatM wa wb) := d_op op_catQ adq_catM ha hb
/-! built-ins -/
def oLenX : DOn := fun ds cs P => ∃ d xs, ds = [d] ∧ lstOf cs d = some xs ∧ P (.int (xs.length : Int)) cs
theorem adq_lenX : AdqN K (fun xs H Q => ∃ p ys, xs = [.ref p] ∧ (SqL K H p ys ∨ SqT K H p ys) ∧ Q (.int ys.length) H) oLenX := fun F cs H xs ds P Q s r ho pe => by
  obtain ⟨d, ys, rfl, e, h⟩ := ho
  cases r with
  | cons r1 t =>
    cases t
    obtain ⟨p, vs, rfl, h1, r1⟩ := lstOf_sq s r1 e
    exact ⟨_, _, rfl, .inl h1, by rw [r1.length]; exact pe H cs _ _ s (.int _) h⟩
def oListX : DOn := fun ds cs P => ∃ d xs, ds = [d] ∧ (lstOf cs d = some xs ∨ d = .tup xs) ∧ P (.lst xs) cs
def oListM : DOn := fun ds cs P => ∃ d xs, ds = [d] ∧ (lstOf cs d = some xs ∨ d = .tup xs) ∧ ∀ p, p ∉ adr cs → P (.opq (.ref p)) ((p, .lst xs) :: cs)
theorem seq_inv {F G0 : Hp} {cs : Cs} {x : V} {d : D} {xs : List D} (s : Sta K F G0 cs H) (r : Rep K (pur F cs H) x d) (h : lstOf cs d = some xs ∨ d = .tup xs) : ∃ p vs, x = .ref p ∧ (SqL K H p vs ∨ SqT K H p vs) ∧ RepL K (pur F cs H) vs xs := by
  rcases h with h | rfl
  · obtain ⟨p, vs, e, h1, r1⟩ := lstOf_sq s r h
    exact ⟨p, vs, e, .inl h1, r1⟩
  · cases r with
    | tup h r => exact ⟨_, _, rfl, .inr (ex_t pur_le h), r⟩
theorem adq_listX : AdqN K (fun xs H Q => ∃ p ys, xs = [.ref p] ∧ (SqL K H p ys ∨ SqT K H p ys) ∧ ∀ l, H l = none → Q (.ref l) (upd H l (.lst ys))) oListX := fun F cs H xs ds P Q s r ho pe => by
  obtain ⟨d, ys, rfl, e, h⟩ := ho
  cases r with
  | cons r1 t =>
    cases t
    obtain ⟨p, vs, rfl, h1, r1⟩ := seq_inv s r1 e
    refine ⟨_, _, rfl, h1, fun l hl => ?_⟩
    obtain ⟨s2, e2⟩ := s.new (o := .lst vs) hl
    exact pe _ cs _ _ s2 (.lst (SqL.of e2) (r1.mono s2.gr)) h
theorem adq_listM : AdqN K (fun xs H Q => ∃ p ys, xs = [.ref p] ∧ (SqL K H p ys ∨ SqT K H p ys) ∧ ∀ l, H l = none → Q (.ref l) (upd H l (.lst ys))) oListM := fun F cs H xs ds P Q s r ho pe => by
  obtain ⟨d, ys, rfl, e, h⟩ := ho
  cases r with
  | cons r1 t =>
    cases t
    obtain ⟨p, vs, rfl, h1, r1⟩ := seq_inv s r1 e
    refine ⟨_, _, rfl, h1, fun l hl => ?_⟩
    have s2 := s.newM (m := .lst ys) (o := .lst vs) hl r1
    exact pe _ _ _ _ s2 (.opq _) (h l (s.notin hl).2)
def oTupX : DOn := fun ds cs P => ∃ d xs, ds = [d] ∧ (lstOf cs d = some xs ∨ d = .tup xs) ∧ P (.tup xs) cs
theorem adq_tupX : AdqN K (fun xs H Q => ∃ p ys, xs = [.ref p] ∧ ((SqL K H p ys ∧ ∀ l, H l = none → Q (.ref l) (upd H l (.tup ys))) ∨ (SqT K H p ys ∧ Q (.ref p) H))) oTupX := fun F cs H xs ds P Q s r ho pe => by
  obtain ⟨d, ys, rfl, e, h⟩ := ho
  cases r with
  | cons r1 t =>
    cases t
    rcases e with e | rfl
    · obtain ⟨p, vs, rfl, h1, r1⟩ := lstOf_sq s r1 e
      refine ⟨_, _, rfl, .inl ⟨h1, fun l hl => ?_⟩⟩
      obtain ⟨s2, e2⟩ := s.new (o := .tup vs) hl
      exact pe _ cs _ _ s2 (.tup (SqT.of e2) (r1.mono s2.gr)) h
    · cases r1 with
      | tup h1 r1 => exact ⟨_, _, rfl, .inr ⟨ex_t pur_le h1, pe H cs _ _ s (.tup h1 r1) h⟩⟩
def oSortX : DOn := fun ds cs P => ∃ (d : D) (ns : List Int), ds = [d] ∧ lstOf cs d = some (ns.map D.int) ∧ ∀ ns' : List Int, ns'.Perm ns → ns'.Pairwise (· ≤ ·) → P (.lst (ns'.map D.int)) cs
def oSortM : DOn := fun ds cs P => ∃ (d : D) (ns : List Int), ds = [d] ∧ lstOf cs d = some (ns.map D.int) ∧ ∀ ns' : List Int, ns'.Perm ns → ns'.Pairwise (· ≤ ·) → ∀ p, p ∉ adr cs → P (.opq (.ref p)) ((p, .lst (ns'.map D.int)) :: cs)
theorem adq_sortX : AdqN K (rSortedI K) oSortX := fun F cs H xs ds P Q s r ho pe => by
  obtain ⟨d, ns, rfl, e, h⟩ := ho
  cases r with
  | cons r1 t =>
    cases t
    obtain ⟨p, vs, rfl, h1, r1⟩ := lstOf_sq s r1 e
    have e2 := RepL.intsL ns r1
    subst e2
    refine ⟨_, ns, rfl, h1, fun ns' l hp ho hl => ?_⟩
    obtain ⟨s2, e2⟩ := s.new (o := .lst (ns'.map V.int)) hl
    exact pe _ cs _ _ s2 (.lst (SqL.of e2) (RepL.ofInts ns')) (h ns' hp ho)
theorem adq_sortM : AdqN K (rSortedI K) oSortM := fun F cs H xs ds P Q s r ho pe => by
  obtain ⟨d, ns, rfl, e, h⟩ := ho
  cases r with
  | cons r1 t =>
    cases t
    obtain ⟨p, vs, rfl, h1, r1⟩ := lstOf_sq s r1 e
    have e2 := RepL.intsL ns r1
    subst e2
    refine ⟨_, ns, rfl, h1, fun ns' l hp ho hl => ?_⟩
    have s2 := s.newM (m := .lst (ns'.map D.int)) (o := .lst (ns'.map V.int)) hl (RepL.ofInts ns')
    exact pe _ _ _ _ s2 (.opq _) (h ns' hp ho l (s.notin hl).2)
def oAny : DOn := fun ds cs P => ∃ (d : D) (bs : List Bool), ds = [d] ∧ lstOf cs d = some (bs.map D.bl) ∧ P (.bl (bs.any id)) cs
theorem adq_any : AdqN K (rAny K) oAny := fun F cs H xs ds P Q s r ho pe => by
  obtain ⟨d, bs, rfl, e, h⟩ := ho
  cases r with
  | cons r1 t =>
    cases t
    obtain ⟨p, vs, rfl, h1, r1⟩ := lstOf_sq s r1 e
    have e2 := RepL.bls bs r1
    subst e2
    exact ⟨_, bs, rfl, h1, pe H cs _ _ s (.bl _) h⟩
def oMin2 : DOn := fun ds cs P => ∃ i j, ds = [.int i, .int j] ∧ P (.int (if j < i then j else i)) cs
theorem adq_min2 : AdqN K (fun xs H Q => ∃ i j, xs = [.int i, .int j] ∧ Q (.int (if j < i then j else i)) H) oMin2 := fun F cs H xs ds P Q s r ho pe => by
  obtain ⟨i, j, rfl, h⟩ := ho
  cases r with
  | cons r1 t =>
    cases t with
    | cons r2 t => cases t; cases r1; cases r2; exact ⟨_, _, rfl, pe H cs _ _ s (.int _) h⟩
def oMax2 : DOn := fun ds cs P => ∃ i j, ds = [.int i, .int j] ∧ P (.int (if i < j then j else i)) cs
theorem adq_max2 : AdqN K (fun xs H Q => ∃ i j, xs = [.int i, .int j] ∧ Q (.int (if i < j then j else i)) H) oMax2 := fun F cs H xs ds P Q s r ho pe => by
  obtain ⟨i, j, rfl, h⟩ := ho
  cases r with
  | cons r1 t =>
    cases t with
    | cons r2 t => cases t; cases r1; cases r2; exact ⟨_, _, rfl, pe H cs _ _ s (.int _) h⟩
end
/-! going through -/
section
variable {cs : Cs} {P : DP} {d e : D} {xs ys : List D} {p : Addr}
theorem r_catLL (hl : xs.length + ys.length ≤ 100000) (h : P (.lst (xs ++ ys)) cs) : oCatL (.lst xs) (.lst ys) cs P := ⟨xs, ys, rfl, rfl, hl, h⟩
theorem r_catML (hl : xs.length + ys.length ≤ 100000) (h : ∀ p, p ∉ adr cs → P (.opq (.ref p)) ((p, .lst (xs ++ ys)) :: cs)) : oCatM (.lst xs) (.lst ys) cs P := ⟨xs, ys, rfl, rfl, hl, h⟩
theorem r_lenH (h : P (.int (xs.length : Int)) ((p, .lst xs) :: cs)) : oLenX [.opq (.ref p)] ((p, .lst xs) :: cs) P := ⟨_, xs, rfl, lstOf_h, h⟩
theorem r_lenXL (h : P (.int (xs.length : Int)) cs) : oLenX [.lst xs] cs P := ⟨_, xs, rfl, rfl, h⟩
theorem r_tupH (h : P (.tup xs) ((p, .lst xs) :: cs)) : oTupX [.opq (.ref p)] ((p, .lst xs) :: cs) P := ⟨_, xs, rfl, .inl lstOf_h, h⟩
theorem r_tupXL (h : P (.tup xs) cs) : oTupX [.lst xs] cs P := ⟨_, xs, rfl, .inl rfl, h⟩
theorem r_tupXT (h : P (.tup xs) cs) : oTupX [.tup xs] cs P := ⟨_, xs, rfl, .inr rfl, h⟩
theorem r_listXH (h : P (.lst xs) ((p, .lst xs) :: cs)) : oListX [.opq (.ref p)] ((p, .lst xs) :: cs) P := ⟨_, xs, rfl, .inl lstOf_h, h⟩
theorem r_listXL (h : P (.lst xs) cs) : oListX [.lst xs] cs P := ⟨_, xs, rfl, .inl rfl, h⟩
theorem r_listXT (h : P (.lst xs) cs) : oListX [.tup xs] cs P := ⟨_, xs, rfl, .inr rfl, h⟩
theorem r_listML (h : ∀ p, p ∉ adr cs → P (.opq (.ref p)) ((p, .lst xs) :: cs)) : oListM [.lst xs] cs P := ⟨_, xs, rfl, .inl rfl, h⟩
theorem r_listMT (h : ∀ p, p ∉ adr cs → P (.opq (.ref p)) ((p, .lst xs) :: cs)) : oListM [.tup xs] cs P := ⟨_, xs, rfl, .inr rfl, h⟩
theorem r_min2 {i j : Int} (h : P (.int (if j < i then j else i)) cs) : oMin2 [.int i, .int j] cs P := ⟨_, _, rfl, h⟩
theorem r_max2 {i j : Int} (h : P (.int (if i < j then j else i)) cs) : oMax2 [.int i, .int j] cs P := ⟨_, _, rfl, h⟩
theorem r_sumL {ns : List Int} (h : P (.int ns.sum) cs) : oSumA [.lst (ns.map D.int)] cs P := ⟨ns, .inl rfl, h⟩
theorem r_sumT {ns : List Int} (h : P (.int ns.sum) cs) : oSumA [.tup (ns.map D.int)] cs P := ⟨ns, .inr rfl, h⟩
end
/-! methods -/
section
variable {X : Cx} {W : WX} {K : PySem.W.Frag} {σ : L2.St} {H : Hp} {a e : Expr} {wa : DL.WE} {w : WA} {cpos apos : Pos}
def oClear : DMt := fun x ds cs P => ∃ p xs, x = .opq (.ref p) ∧ ds = [] ∧ look p cs = some (.lst xs) ∧ P .non (put p (.lst []) cs)
theorem adq_clear : AdqM K "list" rClear oClear := fun F cs H x xs dx ds P Q s rx rl ho pe => by
  obtain ⟨p, ys, rfl, rfl, e, h⟩ := ho
  cases rx
  cases rl
  obtain ⟨vs, e1, r1⟩ := lst_at s e
  have s2 := s.put e (m' := .lst []) (o' := .lst []) (show RepL K _ [] [] from .nil)
  exact ⟨_, _, rfl, rfl, e1, pe _ _ _ _ s2 .non h⟩
theorem d_clear (ho : DE X W a wa) (hbase : attributeBase a "clear" X.env (eval a X.env) = eval a X.env := by rfl) (hline : (apos.endLine == cpos.line) = true := by rfl) :
    DE X W (.Call (.Attribute a "clear" apos) [] [] cpos) (wMtL0 oClear wa) := d_bmL0 PySem.F.slot_list_clear PySem.F.type_list_clear mt_clear adq_clear ho hbase hline
theorem r_clearH {cs : Cs} {P : DP} {p : Addr} {xs : List D} (h : P .non ((p, .lst []) :: cs)) : oClear (.opq (.ref p)) [] ((p, .lst xs) :: cs) P := ⟨p, xs, rfl, rfl, look_hd, by rw [put_hd]; exact h⟩
def oPopAt : DMt := fun x ds cs P => ∃ p xs i k y, x = .opq (.ref p) ∧ ds = [.int i] ∧ look p cs = some (.lst xs) ∧ -(2 ^ 63) ≤ i ∧ i < 2 ^ 63 ∧ seqIndex? i xs.length = some k ∧ xs[k]? = some y ∧ P y (put p (.lst (xs.eraseIdx k)) cs)
theorem RepL.erase {G : Hp} : ∀ {vs : List V} {ds : List D} (n : Nat), RepL K G vs ds → RepL K G (vs.eraseIdx n) (ds.eraseIdx n)
  | _, _, _, .nil => .nil
  | _, _, 0, .cons _ r => r
  | _, _, n + 1, .cons h r => .cons h (r.erase n)
theorem adq_popAt : AdqM K "list" rPopAt oPopAt := fun F cs H x xs dx ds P Q s rx rl ho pe => by
  obtain ⟨p, ys, i, k, y, rfl, rfl, e, h1, h2, h3, h4, h⟩ := ho
  cases rx
  cases rl with
  | cons r1 t =>
    cases t
    cases r1
    obtain ⟨vs, e1, r1⟩ := lst_at s e
    obtain ⟨v, e2, rv⟩ := r1.get h4
    have s2 := s.put e (m' := .lst (ys.eraseIdx k)) (o' := .lst (vs.eraseIdx k)) (r1.erase k)
    exact ⟨_, _, _, k, v, rfl, rfl, e1, h1, h2, by rw [r1.length]; exact h3, e2, pe _ _ _ _ s2 (rv.mono s2.gr) h⟩
theorem d_popAt (ho : DE X W a wa) (ha : DA X W [e] w) (hbase : attributeBase a "pop" X.env (eval a X.env) = eval a X.env := by rfl)
    (hfew : ((backTo cpos (starEach [e] X.env)).all (fun x => !x.1) && (backToKw cpos (keywordEach [] X.env)).all (fun x => x.1.isSome)
      && decide ([e].length + ([] : List Keyword).length + (if ([] : List Keyword).isEmpty then 0 else 1) < 30)) = true := by rfl)
    (hline : (apos.endLine == cpos.line) = true := by rfl) (hs : starEach [e] X.env = (false, eval e X.env) :: starEach [] X.env := by rfl) (hplain : (backTo cpos (starEach [] X.env)).any (·.1) = false := by rfl) :
    DE X W (.Call (.Attribute a "pop" apos) [e] [] cpos) (wMtL oPopAt wa w) := d_bmL PySem.F.slot_list_pop PySem.F.type_list_pop mt_popAt adq_popAt ho ha hbase hfew hline hs hplain
end
end DL

/-! DLA: plain mathematics of laid boxes: areas, points. -/
namespace DL
open PySem PySem.Spec PyProof.Rows L2
theorem liesR_iff {l t w h x y : Rat} : liesR l t w h x y = true ↔ (l ≤ x ∧ x < l + w) ∧ (t ≤ y ∧ y < t + h) := by
  unfold liesR
  simp only [Bool.and_eq_true, Bool.not_eq_true', decide_eq_false_iff_not, decide_eq_true_eq, Rat.not_lt]
  exact ⟨fun ⟨a, b, c, d⟩ => ⟨⟨a, b⟩, c, d⟩, fun ⟨⟨a, b⟩, c, d⟩ => ⟨a, b, c, d⟩⟩
theorem edge_le {a b : Rat} (hb : 0 < b) {ws : List Int} (h : WOk ws) {i j : Nat} (hij : i ≤ j) : edgeAt a b ws i ≤ edgeAt a b ws j := by
  induction j with
  | zero => rw [show i = 0 by omega]; exact Rat.le_refl
  | succ j ih =>
    by_cases e : i = j + 1
    · rw [e]; exact Rat.le_refl
    · exact Rat.le_trans (ih (by omega)) (edge_mono hb h j)
theorem split_sub {b : Bx} {ws : List Int} (hp : b.Pos) (hw : WOk ws) (dn : Bool) {i : Nat} (hi : i < ws.length) {x y : Rat} (h : (splitAt_ b ws dn i).lies x y = true) : b.lies x y = true := by
  have ew : ws[i]? = some ws[i] := List.getElem?_eq_getElem hi
  cases dn with
  | true =>
    rw [splitAt_down ew] at h
    have h := liesR_iff.mp h
    rw [edge_step _ _ hw ew] at h
    refine liesR_iff.mpr ⟨h.1, Rat.le_trans ?_ h.2.1, ltleR h.2.2 ?_⟩
    · have := edge_le (a := b.t) hp.h hw (Nat.zero_le i); rwa [edge_zero] at this
    · have := edge_le (a := b.t) hp.h hw (show i + 1 ≤ ws.length from hi); rwa [edge_len _ _ hw] at this
  | false =>
    rw [splitAt_across ew] at h
    have h := liesR_iff.mp h
    rw [edge_step _ _ hw ew] at h
    refine liesR_iff.mpr ⟨⟨Rat.le_trans ?_ h.1.1, ltleR h.1.2 ?_⟩, h.2⟩
    · have := edge_le (a := b.l) hp.w hw (Nat.zero_le i); rwa [edge_zero] at this
    · have := edge_le (a := b.l) hp.w hw (show i + 1 ≤ ws.length from hi); rwa [edge_len _ _ hw] at this
theorem split_cnt {b : Bx} {ws : List Int} (hp : b.Pos) (hw : WOk ws) (dn : Bool) (x y : Rat) : (splitB b ws dn).countP (fun c => c.lies x y) = if b.lies x y = true then 1 else 0 := by
  by_cases h : b.lies x y = true
  · rw [if_pos h]
    have h := liesR_iff.mp h
    exact split_one hp hw dn h.1.1 h.1.2 h.2.1 h.2.2
  · rw [if_neg h]
    refine List.countP_eq_zero.mpr fun c hc hl => h ?_
    unfold splitB at hc
    obtain ⟨i, hi, rfl⟩ := List.mem_map.mp hc
    exact split_sub hp hw dn (List.mem_range.mp hi) hl
theorem countP_flatMap {α β : Type} (p : β → Bool) (f : α → List β) : ∀ l : List α, (l.flatMap f).countP p = (l.map fun a => (f a).countP p).sum
  | [] => rfl
  | a :: l => by rw [List.flatMap_cons, List.countP_append, countP_flatMap p f l, List.map_cons, List.sum_cons]
theorem sum_ite {α : Type} (q : α → Bool) : ∀ l : List α, (l.map fun a => if q a = true then 1 else 0).sum = l.countP q
  | [] => rfl
  | a :: l => by
    rw [List.map_cons, List.sum_cons, sum_ite q l, List.countP_cons]
    omega
theorem laid_cnt {b : Bx} {ws zs : List Int} (hp : b.Pos) (hw : WOk ws) (hz : SzOk zs ws.length) (dn : Bool) (x y : Rat) : (laidB b ws zs dn).countP (fun c => c.lies x y) = if b.lies x y = true then 1 else 0 := by
  have hs := sums_wok hw hz
  unfold laidB
  rw [countP_flatMap, ← split_cnt hp hs dn x y]
  unfold splitB
  rw [List.countP_map, ← sum_ite, sums_len]
  congr 1
  refine List.map_congr_left fun i hi => ?_
  have hi := List.mem_range.mp hi
  have ei : (sumsOf ws zs)[i]? = some _ := sums_get hi
  have := split_cnt (splitAt_pos hp hs dn ei) (row_wok hw hz hi) (!dn) x y
  unfold laidAt
  rw [this]
  rfl
theorem laid_mem {b : Bx} {ws zs : List Int} (hp : b.Pos) (hw : WOk ws) (hz : SzOk zs ws.length) (dn : Bool) {n : Nat} (hs : b.Sz n) {c : Bx} (h : c ∈ laidB b ws zs dn) : c.Pos ∧ c.Sz ((n + n + 24) + (n + n + 24) + 24) ∧ b.lies c.l c.t = true := by
  have hs' := sums_wok hw hz
  unfold laidB at h
  obtain ⟨i, hi, h⟩ := List.mem_flatMap.mp h
  have hi := List.mem_range.mp hi
  have ei : (sumsOf ws zs)[i]? = some _ := sums_get hi
  unfold laidAt splitB at h
  obtain ⟨j, hj, rfl⟩ := List.mem_map.mp h
  have hj := List.mem_range.mp hj
  have ew := List.getElem?_eq_getElem hj
  have p1 := splitAt_pos hp hs' dn ei
  have rw_ := row_wok hw hz hi
  have p2 := splitAt_pos p1 rw_ (!dn) ew
  refine ⟨p2, splitAt_sz (splitAt_sz hs hs' dn (by rw [sums_len]; exact hi)) rw_ _ hj, ?_⟩
  refine split_sub hp hs' dn (by rw [sums_len]; exact hi) (split_sub p1 rw_ (!dn) hj ?_)
  exact liesR_lt p2.w p2.h
def Bx.area (b : Bx) : Rat := b.w * b.h
theorem mul_comm3 (a b c : Rat) : a * b * c = a * c * b := by rw [Rat.mul_assoc, Rat.mul_comm b, ← Rat.mul_assoc]
theorem split_area {b : Bx} {ws : List Int} (dn : Bool) : (splitB b ws dn).map Bx.area = ws.map fun w => b.area * Rat.divInt w ws.sum := by
  refine List.ext_getElem? fun i => ?_
  by_cases hi : i < ws.length
  · have ew : ws[i]? = some ws[i] := List.getElem?_eq_getElem hi
    rw [List.getElem?_map, List.getElem?_map, split_at ew, ew]
    show some _ = some _
    congr 1
    unfold Bx.area
    cases dn with
    | true => rw [splitAt_down ew]; exact (Rat.mul_assoc _ _ _).symm
    | false => rw [splitAt_across ew]; exact mul_comm3 _ _ _
  · rw [List.getElem?_eq_none (by rw [List.length_map, DL.split_len]; omega), List.getElem?_eq_none (by rw [List.length_map]; omega)]
theorem frac_mul {a b c : Int} (hb : b ≠ 0) (hc : c ≠ 0) : Rat.divInt b c * Rat.divInt a b = Rat.divInt a c := by
  rw [Rat.divInt_mul_divInt, Int.mul_comm b a, Rat.divInt_mul_right hb]
theorem flat_congr {α β : Type} {f g : α → List β} : ∀ {l : List α}, (∀ a ∈ l, f a = g a) → l.flatMap f = l.flatMap g
  | [], _ => rfl
  | a :: l, h => by rw [List.flatMap_cons, List.flatMap_cons, h a (List.mem_cons_self ..), flat_congr fun b hb => h b (List.mem_cons_of_mem _ hb)]
theorem laid_area {b : Bx} {ws zs : List Int} (hw : WOk ws) (hz : SzOk zs ws.length) (dn : Bool) : (laidB b ws zs dn).map Bx.area = ws.map fun w => b.area * Rat.divInt w ws.sum := by
  have hs' := sums_wok hw hz
  unfold laidB
  rw [List.map_flatMap]
  have e : ∀ i ∈ List.range zs.length, (laidAt b ws zs dn i).map Bx.area = (rowAt ws zs i).map fun w => b.area * Rat.divInt w ws.sum := fun i hi => by
    have hi := List.mem_range.mp hi
    have ei : (sumsOf ws zs)[i]? = some _ := sums_get hi
    unfold laidAt
    rw [split_area]
    have e2 : (splitAt_ b (sumsOf ws zs) dn i).area = b.area * Rat.divInt (rowAt ws zs i).sum ws.sum := by
      have := congrArg (·[i]?) (split_area (b := b) (ws := sumsOf ws zs) dn)
      simp only [List.getElem?_map, split_at ei, ei] at this
      rw [sums_sum hz] at this
      exact Option.some.inj this
    have h1 := (row_wok hw hz hi).sum_pos
    have h2 := hw.sum_pos
    refine List.map_congr_left fun w _ => ?_
    rw [e2, Rat.mul_assoc, frac_mul (by omega) (by omega)]
  rw [flat_congr e, ← List.map_flatMap, rows_all hz]
theorem sum_frac (a : Rat) {c : Int} (hc : c ≠ 0) : ∀ ws : List Int, (ws.map fun w => a * Rat.divInt w c).sum = a * Rat.divInt ws.sum c
  | [] => by simp [Rat.zero_divInt, Rat.mul_zero]
  | w :: ws => by
    rw [List.map_cons, List.sum_cons, List.sum_cons, sum_frac a hc ws, divInt_plus hc, Rat.mul_add]
theorem frac_int {a : Rat} {w c : Int} (hc : c ≠ 0) : a * Rat.divInt w c * (c : Rat) = a * (w : Rat) := by
  have hs' : (c : Rat) ≠ 0 := fun z => hc (Rat.intCast_eq_zero_iff.mp z)
  rw [Rat.mul_assoc, Rat.divInt_eq_div, Rat.div_mul_cancel hs']
theorem divInt_one' (a : Int) : Rat.divInt a 1 = (a : Rat) := Rat.num_divInt_den (a : Rat)
theorem frac_in' {a b : Rat} (hb : 0 < b) {g m : Int} (g0 : 0 ≤ g) (g1 : g < m) : a ≤ a + b * Rat.divInt g m ∧ a + b * Rat.divInt g m < a + b := by
  have hm : (0 : Rat) < (m : Rat) := Rat.intCast_pos.mpr (by omega)
  have h0 : 0 ≤ Rat.divInt g m := by
    rw [Rat.divInt_eq_div, Rat.div_def]
    exact Rat.mul_nonneg (Rat.intCast_nonneg.mpr g0) (Rat.le_of_lt (Rat.inv_pos.mpr hm))
  have h1 : Rat.divInt g m < 1 := by
    rw [Rat.divInt_eq_div, Rat.div_lt_iff hm, Rat.one_mul]
    exact Rat.intCast_lt_intCast.mpr g1
  refine ⟨le_addR (Rat.mul_nonneg (Rat.le_of_lt hb) h0), ?_⟩
  refine Rat.add_lt_add_left.mpr ?_
  have := Rat.mul_lt_mul_of_pos_left h1 hb
  rwa [Rat.mul_one] at this
end DL

/-! DLT: a, *b = a list; slices of a list or a tuple. -/
namespace DL
open PySem PySem.Spec PyProof.Rows L2
theorem shiftS {prog : Program} {w : World} {A : Around} {I : Addr} {fp wr : List Addr} {G : Array GenState → Array GenState → Prop} {n : Nat} {P : Nat → Value → Prop} {St : Nat → Shared → Prop} (W : WalksS prog w A I fp wr G (n + 1) P St) :
    WalksS prog w A I fp wr G n (fun i => P (i + 1)) (fun i => St (i + 1)) where
  sub := W.sub
  grefl := W.grefl
  gtrans := W.gtrans
  frame := fun i s h' tk st => W.frame (i + 1) s h' tk st
  item := fun i s Q E hi st hQ => W.item (i + 1) s Q E (Nat.succ_lt_succ hi) st hQ
  done := fun s Q E st hQ => W.done s Q E st hQ
  self := fun i s Q E st hQ => W.self (i + 1) s Q E st hQ
section
variable {prog : Program} {w : World} {A : Around} {E : Value → Shared → Prop} {s : Shared}
theorem unpack_star {l : Addr} {x : Value} {xs : List Value} {Q : List Value → Shared → Prop} (hh : A.handled = none) (hl : s.heap.IsList l (x :: xs).toArray) (hz : xs.length ≤ sizeLine)
    (hQ : ∀ (h' : Heap) (tk : Nat), (∀ b o, s.heap.get? b = some o → h'.get? b = some o) → Q [x, .ref h'.objs.size] { s with heap := h'.push { cls := .type "list", data := .seq xs.toArray }, toks := tk }) :
    wpAny (model prog w) A (unpackItems (.ref l) 2 (some 1)) Q E s := by
  have hlt : l ≠ s.heap.objs.size := by obtain ⟨o, ho, _⟩ := hl; exact Nat.ne_of_lt (Heap.lt_size ho)
  have hne : ¬ s.heap.objs.size < s.heap.objs.size := Nat.lt_irrefl _
  unfold unpackItems
  refine wpAny_bind ?_
  unfold notIterableAtAll
  refine wpAny_bind (wpAny_specialOf hl.typeIs slot_list_iter.lookup ?_)
  refine wpAny_pure ?_
  simp only [Bool.false_eq_true, if_false]
  refine wpAny_bind (wpAny_holding (wpAny_pyIter_list hl ?_))
  have hl1 : (s.heap.push { cls := .type "list_iterator", data := .fields #[.ref l, .int 0 0] }).IsList l (x :: xs).toArray := hl.at fun o e => Heap.get?_push_of_some _ e
  have hi1 : (s.heap.push { cls := .type "list_iterator", data := .fields #[.ref l, .int 0 0] }).IsListIter s.heap.objs.size l 0 := ⟨_, Heap.get?_push_size _ rfl, rfl, rfl⟩
  refine wpAny_bind (wpAny_holding ?_)
  show wpAny _ _ (pyNext (.ref s.heap.objs.size) >>= _) _ _ _
  refine wpAny_bind (wpAny_pyNext_list_item hi1 hl1 (x := x) (by simp) fun h1 hit1 hs1 => ?_)
  refine wpAny_bind (wpAny_holding (wpAny_pure (wpAny_pure ?_)))
  simp only [List.length_cons, List.length_nil, Nat.zero_add, Nat.lt_irrefl, if_false]
  have hl2 : h1.IsList l (x :: xs).toArray := hl1.extBut hs1.extBut hlt
  have hsz : s.heap.objs.size < h1.objs.size := by obtain ⟨o, ho, _⟩ := hit1; exact Heap.lt_size ho
  have hsz2 : l < h1.objs.size := by obtain ⟨o, ho, _⟩ := hl2; exact Heap.lt_size ho
  have W0 := (Walks.list (prog := prog) (w := w) (A := A.in1) hh s.heap.objs.size l hlt (x :: xs).toArray).toS
  have W1 : WalksS prog w A.in1 s.heap.objs.size [s.heap.objs.size, l] [s.heap.objs.size] (fun a b => b = a) xs.length (fun i v => (x :: xs).toArray[i + 1]? = some v) (fun i sh => sh.heap.IsListIter s.heap.objs.size l (i + 1) ∧ sh.heap.IsList l (x :: xs).toArray) := shiftS (n := xs.length) W0
  refine wpAny_bind (wpAny_holding (wpAny_collect_iter (T := "list_iterator") (.inr (.inr (.inl rfl))) W1 (fun i sh st => st.1.typeIs) ⟨hit1, hl2⟩ (fun b hb => ?_) (by simp) (fun s' acc hm hit => ?_) hz))
  · rcases List.mem_cons.mp hb with rfl | hb
    · exact hsz
    · rw [List.mem_singleton.mp hb]; exact hsz2
  have eacc : acc.toList = xs := by
    refine List.ext_getElem? fun i => ?_
    obtain ⟨e1, e2⟩ := hit
    by_cases hi : i < xs.length
    · have hi' : i < acc.size := by omega
      have := e2 i acc[i] (by simp [hi'])
      rw [Array.getElem?_toList, Array.getElem?_eq_getElem hi']
      simpa using this.symm
    · rw [List.getElem?_eq_none (by simp; omega), List.getElem?_eq_none (by omega)]
  rw [eacc]
  simp only [Nat.sub_self, show 2 - 1 - 1 = 0 from rfl, Nat.not_lt_zero, if_false, Nat.sub_zero, List.take_length, List.drop_length]
  refine wpAny_bind (wpAny_newObj_type ?_ (by size_fits))
  refine wpAny_pure ?_
  obtain ⟨hp, g, d, tk, os⟩ := s'
  have hg : g = s.gens := hm.gens
  have hd : d = s.drawn := hm.drawn
  have ho : os = s.os := hm.os
  subst hg hd ho
  refine hQ hp _ fun b o e => hm.heap b o (fun z => ?_) (hs1.extBut b o (Nat.ne_of_lt (Heap.lt_size e)) (Heap.get?_push_of_some _ e))
  rw [List.mem_singleton.mp z] at e
  exact Nat.lt_irrefl _ (Heap.lt_size e)
end
section
variable {X : Cx} {W : WX} {K : PySem.W.Frag} {σ : L2.St} {H : Hp} {pos : Pos}
def gStarV (K : PySem.W.Frag) (g1 g2 : TG) : TG := fun v σ H Q => ∃ p x xs, v = .ref p ∧ SqL K H p (x :: xs) ∧ ∀ l, H l = none → g1 x σ (upd H l (.lst xs)) fun σ1 H1 => g2 (.ref l) σ1 H1 Q
theorem pg_star {e1 e2 : Expr} {ps : Pos} {k : Nat} {g1 g2 : TG} (hc : X.calm = true) (h1 : PG X e1 g1) (h2 : PG X e2 g2)
    (hn : assignEach [e1, .Starred e2 ps] X.env = [(false, assign e1 X.env), (true, assign e2 X.env)] := by rfl) : PG X (.Tuple [e1, .Starred e2 ps] k pos) (gStarV X.K g1 g2) := by
  refine ⟨fun pins s σ H v u Q I r hw => ?_⟩
  obtain ⟨p, x, xs, rfl, hq, hw⟩ := hw
  cases r
  obtain ⟨its, rv, pl, hz⟩ := I.list hq
  cases rv with
  | @cons _ u0 _ ur rx rr =>
    rw [assign_Tuple, hn]
    refine wpAny_bind (wpAny_standAt ?_)
    show wpAny _ _ (unpackItems (.ref p) 2 (some 1) |> fun m => do assignInOrder [assign e1 X.env, assign e2 X.env] (← holding [.ref p] m)) _ _ _
    have hzr : ur.length ≤ sizeLine := by
      have := Paired.length rr
      rw [← this]
      simp at hz
      omega
    refine wpAny_bind (wpAny_holding (unpack_star (I.ok.hd hc) pl.isList hzr fun h' tk hk => ?_))
    have I1 : Inv X pins σ H { s with heap := h', toks := tk } := I.kept (t' := tk) hk
    have I2 := I1.lnew (t' := tk) (its := ur) (ys := xs) rr (by have := Paired.length rr; rw [this]; exact hzr)
    refine assignInOrder_cons (thn (h1.run pins _ σ _ x u0 _ I2 rx (hw _ I1.fresh)) fun _ s2 ⟨σ2, H2, I3, q2⟩ => ?_)
    refine assignInOrder_cons (thn (h2.run pins _ σ2 H2 (.ref _) (.ref _) _ I3 rfl q2) fun _ s3 ⟨σ3, H3, I4, q3⟩ => ?_)
    exact assignInOrder_nil ⟨σ3, H3, I4, q3⟩
def gStar (g1 g2 : WG) : WG := fun d ρ k => match d with
  | .lst (x :: xs) => g1 x ρ fun ρ1 => g2 (.lst xs) ρ1 k
  | _ => False
theorem dg_star {e1 e2 : Expr} {ps : Pos} {kk : Nat} {g1 g2 : WG} (hc : X.calm = true) (h1 : DG X e1 g1) (h2 : DG X e2 g2)
    (hn : assignEach [e1, .Starred e2 ps] X.env = [(false, assign e1 X.env), (true, assign e2 X.env)] := by rfl) : DG X (.Tuple [e1, .Starred e2 ps] kk pos) (gStar g1 g2) :=
  PG.imp (pg_star hc h1 h2 hn) fun v σ H Q hq => by
    obtain ⟨F, cs, ρ, d, k, s, re, r, hw, q⟩ := hq
    cases d <;> try exact hw.elim
    rename_i ds
    cases ds with
    | nil => exact hw.elim
    | cons x xs =>
      cases r with
      | lst h r =>
        cases r with
        | cons r1 r2 =>
          refine ⟨_, _, _, rfl, ex_l pur_le h, fun l hl => ?_⟩
          obtain ⟨s2, e2⟩ := s.new (o := .lst _) hl
          refine ⟨F, cs, ρ, _, _, s2.self, re.mono s2.gr, r1.mono s2.gr, hw, fun σ1 ρ1 H1 s1 re1 h1 => ?_⟩
          exact ⟨F, cs, ρ1, _, k, s1.self, re1, .lst (ex_l s1.gr (SqL.of e2)) (r2.mono (s2.gr.trans s1.gr)), h1, fun σ2 ρ2 H2 s3 re2 h2 => q σ2 ρ2 H2 (s3.from_ (s2.gr.trans s1.gr)) re2 h2⟩
theorem r_gStar {g1 g2 : WG} {x : D} {xs : List D} {ρ : DL.Env} {k : DL.Env → Prop} (h : g1 x ρ fun ρ1 => g2 (.lst xs) ρ1 k) : gStar g1 g2 (.lst (x :: xs)) ρ k := h
/-! slices of a list or a tuple -/
def rSlAny (K : PySem.W.Frag) : V → Option Int → Option Int → Hp → VK → Prop := fun x lo hi H Q => (∃ a xs, x = .ref a ∧ SqL K H a xs ∧ ∀ p, H p = none → Q (.ref p) (upd H p (.lst (cutV xs lo hi)))) ∨ rSlA K x lo hi H Q
theorem sl_any : SlR X (rSlAny X.K) := by
  intro pins s σ H x v vl vu lo hi sl Q I rx hs pl pu h
  rcases h with h | h
  · exact sl_list pins s σ H x v vl vu lo hi sl Q I rx hs pl pu h
  · exact sl_tupA pins s σ H x v vl vu lo hi sl Q I rx hs pl pu h
def oSlAny : D → Option Int → Option Int → Cs → DP → Prop := fun x lo hi cs P => match x with
  | .lst xs => P (.lst (DL.cutD xs lo hi)) cs
  | .tup xs => P (.tup (DL.cutD xs lo hi)) cs
  | _ => False
theorem adq_slAny : AdqS K (rSlAny K) oSlAny := fun F cs H x dx lo hi P Q s rx ho pe => by
  cases dx <;> try exact ho.elim
  · exact .inr (adq_slT F cs H x _ lo hi P Q s rx ho pe)
  · exact .inl (adq_slL F cs H x _ lo hi P Q s rx ho pe)
theorem r_slAL {xs : List D} {lo hi : Option Int} {cs : Cs} {P : DP} (h : P (.lst (DL.cutD xs lo hi)) cs) : oSlAny (.lst xs) lo hi cs P := h
theorem r_slAT {xs : List D} {lo hi : Option Int} {cs : Cs} {P : DP} (h : P (.tup (DL.cutD xs lo hi)) cs) : oSlAny (.tup xs) lo hi cs P := h
/-! a thing that may change is left behind -/
theorem del_none {p : Addr} : ∀ {cs : Cs}, look p cs = none → del p cs = cs
  | [], _ => rfl
  | (a, x) :: r, h => by
    unfold look at h
    split at h
    · cases h
    · rename_i e
      unfold del
      rw [if_neg e, del_none h]
def wGone (we : DL.WE) : DL.WE := fun ρ cs P Z => we ρ cs (fun d cs1 => ∃ p, P d (del p cs1)) Z
theorem d_gone {e : Expr} {we : DL.WE} (h : DE X W e we) : DE X W e (wGone we) := PE.imp h fun σ H Q h => by
  obtain ⟨F, cs, ρ, P, Z, s, re, hw, pe, px⟩ := h
  refine ⟨F, cs, ρ, _, Z, s, re, hw, fun H1 cs1 v d s1 r1 h1 => ?_, px⟩
  obtain ⟨p, h1⟩ := h1
  cases e : look p cs1 with
  | none => rw [del_none e] at h1; exact pe H1 cs1 v d s1 r1 h1
  | some m =>
    obtain ⟨s2, g2, _⟩ := s1.frz e
    exact pe H1 _ v d s2 (r1.mono g2) h1
theorem r_gone {we : DL.WE} {ρ : DL.Env} {cs : Cs} {P : DP} {Z : XZ} (h : we ρ cs (fun d cs1 => ∃ p, P d (del p cs1)) Z) : wGone we ρ cs P Z := h
theorem r_goneH {p : Addr} {m : MO} {cs : Cs} {P : DP} {d : D} (h : P d cs) : ∃ p', P d (del p' ((p, m) :: cs)) := ⟨p, by rw [del_hd]; exact h⟩
theorem r_popAtH {p : Addr} {xs : List D} {i : Int} {y : D} {cs : Cs} {P : DP} (h0 : 0 ≤ i) (h1 : i < 2 ^ 60) (hy : xs[i.toNat]? = some y) (h : P y ((p, .lst (xs.eraseIdx i.toNat)) :: cs)) : oPopAt (.opq (.ref p)) [.int i] ((p, .lst xs) :: cs) P := by
  have hl := (List.getElem?_eq_some_iff.mp hy).1
  refine ⟨p, xs, i, i.toNat, y, rfl, rfl, look_hd, by omega, by omega, ?_, hy, by rw [put_hd]; exact h⟩
  unfold seqIndex?
  simp
  omega
end
end DL

/-! DLF: plain mathematics: the greatest of parts, shapes of rows. -/
namespace DL
open PySem PySem.Spec PyProof.Rows L2
def mxR (m y : Rat) : Rat := if m < y then y else m
def maxL : List Rat → Rat
  | [] => 0
  | x :: xs => xs.foldl mxR x
structure IsMax (m : Rat) (l : List Rat) : Prop where
  mem : m ∈ l
  le : ∀ y ∈ l, y ≤ m
theorem IsMax.uniq {m m' : Rat} {l : List Rat} (h : IsMax m l) (h' : IsMax m' l) : m = m' := Rat.le_antisymm (h'.le m h.mem) (h.le m' h'.mem)
theorem mxR_pos {m y : Rat} (h : m < y) : mxR m y = y := if_pos h
theorem mxR_neg {m y : Rat} (h : ¬ m < y) : mxR m y = m := if_neg h
theorem atD_zero (x : D) (xs : List D) : atD (x :: xs) 0 = some x := atI_nat (j := 0) rfl
theorem r_ix0 {x : D} {xs : List D} {cs : Cs} {P : DP} (h : P x cs) : oIx (.lst (x :: xs)) (.int 0) cs P := r_ixL (atD_zero x xs) h
theorem r_ix0T {x : D} {xs : List D} {cs : Cs} {P : DP} (h : P x cs) : oIx (.tup (x :: xs)) (.int 0) cs P := r_ixT (atD_zero x xs) h
theorem mxR_l (m y : Rat) : m ≤ mxR m y := by
  unfold mxR
  split
  · rename_i h; exact Rat.le_of_lt h
  · exact Rat.le_refl
theorem mxR_r (m y : Rat) : y ≤ mxR m y := by
  unfold mxR
  split
  · exact Rat.le_refl
  · rename_i h; exact Rat.not_lt.mp h
theorem mxR_or (m y : Rat) : mxR m y = m ∨ mxR m y = y := by
  unfold mxR
  split
  · exact .inr rfl
  · exact .inl rfl
theorem fold_is : ∀ (xs : List Rat) (x : Rat), IsMax (xs.foldl mxR x) (x :: xs)
  | [], x => ⟨List.mem_cons_self .., fun y hy => by rw [List.mem_singleton.mp hy]; exact Rat.le_refl⟩
  | a :: xs, x => by
    have ih := fold_is xs (mxR x a)
    refine ⟨?_, fun y hy => ?_⟩
    · rcases List.mem_cons.mp ih.mem with e | e
      · show (xs.foldl mxR (mxR x a)) ∈ _
        rw [e]
        rcases mxR_or x a with e | e <;> rw [e] <;> simp
      · exact List.mem_cons_of_mem _ (List.mem_cons_of_mem _ e)
    · have h0 := ih.le (mxR x a) (List.mem_cons_self ..)
      rcases List.mem_cons.mp hy with rfl | hy
      · exact Rat.le_trans (mxR_l _ _) h0
      · rcases List.mem_cons.mp hy with rfl | hy
        · exact Rat.le_trans (mxR_r _ _) h0
        · exact ih.le y (List.mem_cons_of_mem _ hy)
theorem maxL_is {l : List Rat} (h : l ≠ []) : IsMax (maxL l) l := by
  cases l with
  | nil => exact absurd rfl h
  | cons x xs => exact fold_is xs x
theorem maxL_eq {l : List Rat} {m : Rat} (h : IsMax m l) : maxL l = m := (maxL_is (fun z => by rw [z] at h; cases h.mem)).uniq h
theorem maxL_sz {l : List Rat} {n : Nat} (h : l ≠ []) (hs : ∀ x ∈ l, Sz n x) : Sz n (maxL l) := hs _ (maxL_is h).mem
theorem maxL_flat {α : Type} {f : α → List Rat} {l : List α} (hl : l ≠ []) (hf : ∀ a ∈ l, f a ≠ []) : maxL (l.flatMap f) = maxL (l.map fun a => maxL (f a)) := by
  refine maxL_eq ⟨?_, fun y hy => ?_⟩
  · have h := (maxL_is (l := l.map fun a => maxL (f a)) (by simpa using hl)).mem
    obtain ⟨a, ha, e⟩ := List.mem_map.mp h
    rw [← e]
    exact List.mem_flatMap.mpr ⟨a, ha, (maxL_is (hf a ha)).mem⟩
  · obtain ⟨a, ha, hy⟩ := List.mem_flatMap.mp hy
    exact Rat.le_trans ((maxL_is (hf a ha)).le y hy) ((maxL_is (l := l.map fun a => maxL (f a)) (by simpa using hl)).le _ (List.mem_map.mpr ⟨a, ha, rfl⟩))
theorem maxL_congr {l l' : List Rat} (h : ∀ x, x ∈ l ↔ x ∈ l') (hl : l ≠ []) : maxL l = maxL l' := by
  have h1 := maxL_is hl
  exact (maxL_eq ⟨(h _).mp h1.mem, fun y hy => h1.le y ((h y).mpr hy)⟩).symm
/-- how a fold over places goes -/
theorem fold_take {l : List Rat} {x : Rat} {i : Nat} {y : Rat} (h : l[i]? = some y) : (l.take (i + 1)).foldl mxR x = mxR ((l.take i).foldl mxR x) y := by
  rw [take_more h, List.foldl_append]; rfl
theorem fold_head {x : Rat} (xs : List Rat) : (x :: xs).foldl mxR x = xs.foldl mxR x := by
  show xs.foldl mxR (mxR x x) = _
  have : mxR x x = x := by unfold mxR; split <;> rfl
  rw [this]
/-! ### shapes of rows -/
def rsh (b : Bx) (dn : Bool) (S W w : Int) : Rat := shapeR ((if dn then b.h else b.w) * Rat.divInt S W) ((if dn then b.w else b.h) * Rat.divInt w S)
def rowShape (b : Bx) (dn : Bool) (ws : List Int) (i n : Nat) : Rat := maxL (((ws.drop i).take n).map (rsh b dn ((ws.drop i).take n).sum ws.sum))
theorem sub_sum {ws : List Int} (hp : ∀ w ∈ ws, 1 ≤ w) (i n : Nat) : ((ws.drop i).take n).sum ≤ ws.sum := by
  have e1 := preS_le (ws := ws.drop i) (fun w h => hp w (List.mem_of_mem_drop h)) n
  have e2 : ws.sum = (ws.take i).sum + (ws.drop i).sum := by rw [← List.sum_append, List.take_append_drop]
  have e3 := preS_nonneg hp i
  unfold preS at *
  omega
theorem sub_wok {ws : List Int} (hw : WOk ws) {i n : Nat} (hn : 1 ≤ n) (h : i + n ≤ ws.length) : WOk ((ws.drop i).take n) := by
  have hl : ((ws.drop i).take n).length = n := by rw [List.length_take, List.length_drop]; omega
  refine ⟨by omega, by have := hw.l1; omega, fun w hm => hw.pos w (List.mem_of_mem_drop (List.mem_of_mem_take hm)), ?_⟩
  have := sub_sum hw.pos i n
  have := hw.sum
  omega
theorem rsh_sz {b : Bx} {k : Nat} (hs : b.Sz k) (hp : b.Pos) (dn : Bool) {S W w : Int} (w0 : 1 ≤ w) (wS : w ≤ S) (SW : S ≤ W) (hW : W < 2 ^ 23) : Sz ((k + 23) + (k + 23)) (rsh b dn S W w) := by
  have f1 := Sz.frac (a := S) (b := W) (by omega) (by omega) (by omega) hW
  have f2 := Sz.frac (a := w) (b := S) (by omega) (by omega) (by omega) (by omega)
  have p1 := divInt_pos' (a := S) (b := W) (by omega) (by omega)
  have p2 := divInt_pos' (a := w) (b := S) (by omega) (by omega)
  unfold rsh
  cases dn with
  | true => exact (hs.h.mul f1).shape (hs.w.mul f2) (Rat.mul_pos hp.h p1) (Rat.mul_pos hp.w p2)
  | false => exact (hs.w.mul f1).shape (hs.h.mul f2) (Rat.mul_pos hp.w p1) (Rat.mul_pos hp.h p2)
theorem row_nonempty {ws : List Int} {i n : Nat} (hn : 1 ≤ n) (h : i + n ≤ ws.length) : (ws.drop i).take n ≠ [] := fun z => by
  have := congrArg List.length z
  rw [List.length_take, List.length_drop] at this
  simp at this
  omega
theorem rowShape_sz {b : Bx} {k : Nat} (hs : b.Sz k) (hp : b.Pos) (dn : Bool) {ws : List Int} (hw : WOk ws) {i n : Nat} (hn : 1 ≤ n) (h : i + n ≤ ws.length) : Sz ((k + 23) + (k + 23)) (rowShape b dn ws i n) := by
  refine maxL_sz (by simpa using row_nonempty hn h) fun x hx => ?_
  obtain ⟨w, hm, rfl⟩ := List.mem_map.mp hx
  have rw_ := sub_wok hw hn h
  obtain ⟨j, hj⟩ := List.getElem?_of_mem hm
  exact rsh_sz hs hp dn (rw_.pos w hm) (mem_le_sum rw_.pos hj) (sub_sum hw.pos i n) hw.sum
theorem rsh_one {b : Bx} (hp : b.Pos) (dn : Bool) {S W w : Int} (w0 : 1 ≤ w) (S0 : 1 ≤ S) (W0 : 1 ≤ W) : 1 ≤ rsh b dn S W w := by
  have p1 := divInt_pos' (a := S) (b := W) (by omega) (by omega)
  have p2 := divInt_pos' (a := w) (b := S) (by omega) (by omega)
  unfold rsh
  cases dn with
  | true => exact Rat.not_lt.mp (shapeR_one (Rat.mul_pos hp.h p1) (Rat.mul_pos hp.w p2))
  | false => exact Rat.not_lt.mp (shapeR_one (Rat.mul_pos hp.w p1) (Rat.mul_pos hp.h p2))
theorem rowShape_one {b : Bx} (hp : b.Pos) (dn : Bool) {ws : List Int} (hw : WOk ws) {i n : Nat} (hn : 1 ≤ n) (h : i + n ≤ ws.length) : 1 ≤ rowShape b dn ws i n := by
  have hm := (maxL_is (l := ((ws.drop i).take n).map (rsh b dn ((ws.drop i).take n).sum ws.sum)) (by simpa using row_nonempty hn h)).mem
  obtain ⟨w, hm2, e⟩ := List.mem_map.mp hm
  have rw_ := sub_wok hw hn h
  unfold rowShape
  rw [← e]
  exact rsh_one hp dn (rw_.pos w hm2) (by have := rw_.sum_pos; omega) (by have := hw.sum_pos; omega)
def Bx.shp (c : Bx) : Rat := shapeR c.w c.h
theorem laidAt_shp {b : Bx} {ws zs : List Int} (hp : b.Pos) (hw : WOk ws) (hz : SzOk zs ws.length) (dn : Bool) {i : Nat} (hi : i < zs.length) : (laidAt b ws zs dn i).map Bx.shp = (rowAt ws zs i).map (rsh b dn (rowAt ws zs i).sum ws.sum) := by
  have hs := sums_wok hw hz
  have rw_ := row_wok hw hz hi
  have ei : (sumsOf ws zs)[i]? = some _ := sums_get hi
  have p1 := divInt_pos' (a := (rowAt ws zs i).sum) (b := ws.sum) rw_.sum_pos hw.sum_pos
  refine List.ext_getElem? fun j => ?_
  by_cases hj : j < (rowAt ws zs i).length
  · have ew := List.getElem?_eq_getElem hj
    unfold laidAt
    rw [List.getElem?_map, List.getElem?_map, split_at ew, ew]
    show some _ = some _
    congr 1
    have p2 := divInt_pos' (a := (rowAt ws zs i)[j]) (b := (rowAt ws zs i).sum) (by have := rw_.pos _ (List.mem_of_getElem? ew); omega) rw_.sum_pos
    unfold Bx.shp rsh
    cases dn with
    | true =>
      rw [splitAt_down ei, sums_sum hz]
      show shapeR (splitAt_ _ (rowAt ws zs i) false j).w (splitAt_ _ (rowAt ws zs i) false j).h = _
      rw [splitAt_across ew]
      exact shapeR_comm (Rat.mul_pos hp.w p2) (Rat.mul_pos hp.h p1)
    | false =>
      rw [splitAt_across ei, sums_sum hz]
      show shapeR (splitAt_ _ (rowAt ws zs i) true j).w (splitAt_ _ (rowAt ws zs i) true j).h = _
      rw [splitAt_down ew]
      rfl
  · rw [List.getElem?_eq_none (by rw [List.length_map, laidAt_len]; omega), List.getElem?_eq_none (by rw [List.length_map]; omega)]
theorem drop_take_mid {α : Type} (a b c : List α) : ((a ++ (b ++ c)).drop a.length).take b.length = b := by
  rw [List.drop_left, List.take_left]
theorem laid_row (b : Bx) {ws zs : List Int} (dn : Bool) (hz : SzOk zs ws.length) {i : Nat} {z : Int} (hzz : zs[i]? = some z) : ((laidB b ws zs dn).drop (preS zs i).toNat).take z.toNat = laidAt b ws zs dn i := by
  have hi : i < zs.length := (List.getElem?_eq_some_iff.mp hzz).1
  have h1 := hz.pre_le i
  have e0 : List.range zs.length = List.range i ++ (i :: (List.range (zs.length - i - 1)).map (i + 1 + ·)) := by
    have : zs.length = i + (1 + (zs.length - i - 1)) := by omega
    rw [this, List.range_add, List.range_add]
    simp [Nat.add_assoc]
  have e1 : ((List.range i).flatMap (laidAt b ws zs dn)).length = (preS zs i).toNat := by
    rw [laid_pre b dn hz (by omega), List.length_take]
    have := preS_nonneg hz.pos i
    omega
  have e2 : (laidAt b ws zs dn i).length = z.toNat := by rw [laidAt_len, row_len hz hzz]
  unfold laidB
  rw [e0, List.flatMap_append, List.flatMap_cons, ← e1, ← e2]
  exact drop_take_mid _ _ _
theorem rowAt_eq {ws zs : List Int} {i : Nat} {z : Int} (hz : zs[i]? = some z) : rowAt ws zs i = (ws.drop (preS zs i).toNat).take z.toNat := by unfold rowAt; rw [getD_of hz]
/-- the worst shape -/
def worstR (b : Bx) (dn : Bool) (ws zs : List Int) : Rat := maxL ((List.range zs.length).map fun i => rowShape b dn ws (preS zs i).toNat (zs.getD i 0).toNat)
theorem SzOk.at_ {zs : List Int} {n : Nat} (h : SzOk zs n) {i : Nat} {z : Int} (hz : zs[i]? = some z) : 1 ≤ z.toNat ∧ (preS zs i).toNat + z.toNat ≤ n ∧ 1 ≤ z ∧ 0 ≤ preS zs i ∧ preS zs i + z ≤ n := by
  have h1 := preS_nonneg h.pos i
  have h2 := h.pre_le (i + 1)
  have h3 := h.pos z (List.mem_of_getElem? hz)
  rw [preS_succ hz] at h2
  omega
theorem SzOk.ne {zs : List Int} {n : Nat} (h : SzOk zs n) (hn : 1 ≤ n) : 0 < zs.length := by
  cases zs with
  | nil => have := h.sum; simp at this; omega
  | cons _ _ => simp
theorem worst_laid {b : Bx} {ws zs : List Int} (hp : b.Pos) (hw : WOk ws) (hz : SzOk zs ws.length) (dn : Bool) : maxL ((laidB b ws zs dn).map Bx.shp) = worstR b dn ws zs := by
  have h0 := hz.ne hw.l0
  unfold laidB worstR
  rw [List.map_flatMap, maxL_flat]
  · congr 1
    refine List.map_congr_left fun i hi => ?_
    have hi := List.mem_range.mp hi
    have ez : zs[i]? = some zs[i] := List.getElem?_eq_getElem hi
    rw [laidAt_shp hp hw hz dn hi, rowAt_eq ez, getD_of ez]
    rfl
  · intro z
    have := congrArg List.length z
    simp at this
    rw [this] at h0
    simp at h0
  · intro i hi z
    have hi := List.mem_range.mp hi
    have ez : zs[i]? = some zs[i] := List.getElem?_eq_getElem hi
    have h1 := congrArg List.length z
    rw [List.length_map, laidAt_len, row_len hz ez] at h1
    have := hz.pos _ (List.mem_of_getElem? ez)
    simp at h1
    omega
theorem laid_shp_mem {b : Bx} {ws zs : List Int} (hp : b.Pos) (hw : WOk ws) (hz : SzOk zs ws.length) (dn : Bool) {c : Bx} (h : c ∈ laidB b ws zs dn) : ∃ S w : Int, c.shp = rsh b dn S ws.sum w ∧ 1 ≤ w ∧ w ≤ S ∧ S ≤ ws.sum := by
  unfold laidB at h
  obtain ⟨i, hi, hc⟩ := List.mem_flatMap.mp h
  have hi := List.mem_range.mp hi
  have e := laidAt_shp hp hw hz dn hi
  have hm : c.shp ∈ (laidAt b ws zs dn i).map Bx.shp := List.mem_map.mpr ⟨c, hc, rfl⟩
  rw [e] at hm
  obtain ⟨w, hw1, e2⟩ := List.mem_map.mp hm
  have rw_ := row_wok hw hz hi
  obtain ⟨j, hj⟩ := List.getElem?_of_mem hw1
  have ez : zs[i]? = some zs[i] := List.getElem?_eq_getElem hi
  refine ⟨_, w, e2.symm, rw_.pos w hw1, mem_le_sum rw_.pos hj, ?_⟩
  rw [rowAt_eq ez]
  exact sub_sum hw.pos _ _
theorem laid_shp_sz {b : Bx} {ws zs : List Int} (hp : b.Pos) (hw : WOk ws) (hz : SzOk zs ws.length) (dn : Bool) {k : Nat} (hs : b.Sz k) (hk : (k + 23) + (k + 23) ≤ 4000 := by decide) {c : Bx} (h : c ∈ laidB b ws zs dn) : Sz 4000 c.shp := by
  obtain ⟨S, w, e, h1, h2, h3⟩ := laid_shp_mem hp hw hz dn h
  rw [e]
  exact (rsh_sz hs hp dn h1 h2 h3 hw.sum).mono hk
theorem worst_sz {b : Bx} {k : Nat} (hs : b.Sz k) (hp : b.Pos) (dn : Bool) {ws zs : List Int} (hw : WOk ws) (hz : SzOk zs ws.length) : Sz ((k + 23) + (k + 23)) (worstR b dn ws zs) := by
  have h0 := hz.ne hw.l0
  refine maxL_sz (fun z => ?_) fun x hx => ?_
  · have := congrArg List.length z
    simp at this
    rw [this] at h0
    simp at h0
  · obtain ⟨i, hi, rfl⟩ := List.mem_map.mp hx
    have hi := List.mem_range.mp hi
    have ez : zs[i]? = some zs[i] := List.getElem?_eq_getElem hi
    have := hz.at_ ez
    rw [getD_of ez]
    exact rowShape_sz hs hp dn hw (by omega) (by omega)
theorem perm_erase {α : Type} : ∀ {l : List α} {i : Nat} (h : i < l.length), (l[i] :: l.eraseIdx i).Perm l
  | a :: l, 0, _ => List.Perm.refl _
  | a :: l, i + 1, h => by
    have h' : i < l.length := by simpa using h
    have ih := perm_erase (l := l) (i := i) h'
    show (l[i] :: a :: l.eraseIdx i).Perm (a :: l)
    exact (List.Perm.swap _ _ _).trans (ih.cons a)
def unI : D → Int
  | .int i => i
  | _ => 0
theorem perm_ints {ys : List D} {l : List Int} (h : ys.Perm (l.map D.int)) : ∃ l' : List Int, ys = l'.map D.int ∧ l'.Perm l := by
  refine ⟨ys.map unI, ?_, ?_⟩
  · rw [List.map_map]
    have : ∀ y ∈ ys, (D.int ∘ unI) y = y := fun y hy => by
      obtain ⟨i, _, rfl⟩ := List.mem_map.mp (h.mem_iff.mp hy)
      rfl
    have e := List.map_congr_left this
    rw [e, List.map_id']
  · have := h.map unI
    rw [List.map_map] at this
    have e : (unI ∘ D.int) = id := rfl
    rwa [e, List.map_id] at this
theorem perm_sum {l l' : List Int} (h : l'.Perm l) : l'.sum = l.sum := by
  induction h with
  | nil => rfl
  | cons x _ ih => rw [List.sum_cons, List.sum_cons, ih]
  | swap x y l => simp only [List.sum_cons]; omega
  | trans _ _ h1 h2 => exact h1.trans h2
theorem cutD_pre {xs : List D} {a : Int} (h0 : 0 ≤ a) (h1 : a ≤ xs.length) : cutD xs none (some a) = xs.take a.toNat := by
  unfold cutD
  rw [HT.sIx_none, sIx_int h0 h1]
  simp
theorem cutD_suf {xs : List D} {a : Int} (h0 : 0 ≤ a) (h1 : a ≤ xs.length) : cutD xs (some a) none = xs.drop a.toNat := by
  unfold cutD
  rw [HT.sIx_none, sIx_int h0 h1]
  refine List.take_of_length_le ?_
  rw [List.length_drop]
  exact Nat.le_refl _
theorem rowShape_congr (b : Bx) (dn : Bool) {ws ws' : List Int} {i j n : Nat} (h : (ws'.drop j).take n = (ws.drop i).take n) (hs : ws'.sum = ws.sum) : rowShape b dn ws' j n = rowShape b dn ws i n := by
  unfold rowShape
  rw [h, hs]
theorem WtOk.perm {ws ws' : List Int} (h : WtOk ws) (hp : ws'.Perm ws) : WtOk ws' := ⟨by rw [hp.length_eq]; exact h.l0, by rw [hp.length_eq]; exact h.l1, fun w hw => h.rg w (hp.mem_iff.mp hw)⟩
theorem three_sizes {f n r : Int} (f0 : 0 ≤ f) (n0 : 1 ≤ n) (r0 : 0 ≤ r) : (∀ z ∈ [f, n, r].filter (fun x => decide (0 < x)), 1 ≤ z) ∧ ([f, n, r].filter (fun x => decide (0 < x))).sum = f + n + r ∧ ∃ k, ([f, n, r].filter (fun x => decide (0 < x)))[k]? = some n ∧ preS ([f, n, r].filter (fun x => decide (0 < x))) k = f := by
  refine ⟨fun z hz => by have := (List.mem_filter.mp hz).2; have := decT this; omega, ?_⟩
  have hn : decide (0 < n) = true := decide_eq_true (by omega)
  by_cases hf : f = 0
  · subst hf
    by_cases hr : r = 0
    · subst hr
      have e : [0, n, 0].filter (fun x : Int => decide (0 < x)) = [n] := by simp [List.filter_cons, show 0 < n by omega]
      rw [e]
      exact ⟨by simp, 0, rfl, rfl⟩
    · have e : [0, n, r].filter (fun x : Int => decide (0 < x)) = [n, r] := by simp [List.filter_cons, show 0 < n by omega, show 0 < r by omega]
      rw [e]
      exact ⟨by simp, 0, rfl, rfl⟩
  · by_cases hr : r = 0
    · subst hr
      have e : [f, n, 0].filter (fun x : Int => decide (0 < x)) = [f, n] := by simp [List.filter_cons, show 0 < n by omega, show 0 < f by omega]
      rw [e]
      exact ⟨by simp, 1, rfl, by simp [preS]⟩
    · have e : [f, n, r].filter (fun x : Int => decide (0 < x)) = [f, n, r] := by simp [List.filter_cons, show 0 < n by omega, show 0 < f by omega, show 0 < r by omega]
      rw [e]
      exact ⟨by simp; omega, 1, rfl, by simp [preS]⟩
end DL

/-! DLH: plain mathematics: how far edges go (sway). -/
namespace DL
open PySem PySem.Spec PyProof.Rows L2
def gapI (a b : Int) : Int := if a - b < 0 then -(a - b) else a - b
theorem gapI_nn (a b : Int) : 0 ≤ gapI a b := by unfold gapI; split <;> omega
theorem gapI_le (a b : Int) : a - b ≤ gapI a b ∧ b - a ≤ gapI a b := by unfold gapI; split <;> omega
def gapS (ws vs : List Int) : Int := (List.zipWith gapI ws vs).sum
def swayR (ws vs : List Int) : Rat := Rat.divInt (gapS ws vs) (if ws.sum < vs.sum then vs.sum else ws.sum)
theorem gapS_nn : ∀ (ws vs : List Int), 0 ≤ gapS ws vs
  | [], _ => by simp [gapS]
  | _ :: _, [] => by simp [gapS]
  | a :: ws, b :: vs => by
    have h1 := gapS_nn ws vs
    have h2 := gapI_nn a b
    unfold gapS at *
    rw [List.zipWith_cons_cons, List.sum_cons]
    omega
/-- of both parts of two lists cut at k -/
theorem gapS_cut : ∀ (k : Nat) (ws vs : List Int), ws.length = vs.length →
    (preS ws k - preS vs k ≤ gapS (ws.take k) (vs.take k) ∧ preS vs k - preS ws k ≤ gapS (ws.take k) (vs.take k)) ∧ ((ws.sum - preS ws k) - (vs.sum - preS vs k) ≤ gapS (ws.drop k) (vs.drop k) ∧ (vs.sum - preS vs k) - (ws.sum - preS ws k) ≤ gapS (ws.drop k) (vs.drop k)) ∧
    gapS (ws.take k) (vs.take k) + gapS (ws.drop k) (vs.drop k) = gapS ws vs
  | _, [], [], _ => by simp [gapS, preS]
  | _, [], _ :: _, h => by simp at h
  | _, _ :: _, [], h => by simp at h
  | 0, a :: ws, b :: vs, h => by
    obtain ⟨_, ⟨h1, h2⟩, h3⟩ := gapS_cut 0 ws vs (by simpa using h)
    obtain ⟨g1, g2⟩ := gapI_le a b
    simp only [gapS, preS, List.take_zero, List.drop_zero, List.zipWith_nil_left, List.sum_nil, List.zipWith_cons_cons, List.sum_cons] at *
    omega
  | k + 1, a :: ws, b :: vs, h => by
    obtain ⟨⟨h0, h0'⟩, ⟨h1, h2⟩, h3⟩ := gapS_cut k ws vs (by simpa using h)
    obtain ⟨g1, g2⟩ := gapI_le a b
    simp only [gapS, preS, List.take_succ_cons, List.drop_succ_cons, List.zipWith_cons_cons, List.sum_cons] at *
    omega
/-- the cross product of two cuts -/
theorem cross_le {p r p' r' d1 d2 m : Int} (hp : 0 ≤ p) (hr : 0 ≤ r) (hp' : 0 ≤ p') (hr' : 0 ≤ r') (a1 : p - p' ≤ d1) (a2 : p' - p ≤ d1) (b1 : r - r' ≤ d2) (b2 : r' - r ≤ d2) (hm1 : p' ≤ m) (hm2 : r' ≤ m) : p * r' - p' * r ≤ (d1 + d2) * m ∧ p' * r - p * r' ≤ (d1 + d2) * m := by
  have d1n : 0 ≤ d1 := by omega
  have d2n : 0 ≤ d2 := by omega
  have e1 : p * r' - p' * r = (p - p') * r' + p' * (r' - r) := by rw [Int.sub_mul, Int.mul_sub]; omega
  have e2 : p' * r - p * r' = (p' - p) * r' + p' * (r - r') := by rw [Int.sub_mul, Int.mul_sub]; omega
  have t1 : (p - p') * r' ≤ d1 * m := Int.le_trans (Int.mul_le_mul_of_nonneg_right a1 hr') (Int.mul_le_mul_of_nonneg_left hm2 d1n)
  have t1' : (p' - p) * r' ≤ d1 * m := Int.le_trans (Int.mul_le_mul_of_nonneg_right a2 hr') (Int.mul_le_mul_of_nonneg_left hm2 d1n)
  have t2 : p' * (r' - r) ≤ d2 * m := by
    rw [Int.mul_comm]
    exact Int.le_trans (Int.mul_le_mul_of_nonneg_right b2 hp') (Int.mul_le_mul_of_nonneg_left hm1 d2n)
  have t2' : p' * (r - r') ≤ d2 * m := by
    rw [Int.mul_comm]
    exact Int.le_trans (Int.mul_le_mul_of_nonneg_right b1 hp') (Int.mul_le_mul_of_nonneg_left hm1 d2n)
  rw [Int.add_mul]
  omega
theorem divInt_le_iff' {a b c d : Int} (hb : 0 < b) (hd : 0 < d) : Rat.divInt a b ≤ Rat.divInt c d ↔ a * d ≤ c * b := by
  have hb' : (0 : Rat) < (b : Rat) := Rat.intCast_pos.mpr hb
  have hd' : (0 : Rat) < (d : Rat) := Rat.intCast_pos.mpr hd
  rw [← Rat.not_lt, ← Int.not_lt]
  refine not_congr ?_
  rw [Rat.divInt_eq_div, Rat.divInt_eq_div, Rat.div_lt_iff hd', Rat.div_def, Rat.mul_assoc, Rat.mul_comm (b : Rat)⁻¹, ← Rat.mul_assoc, ← Rat.div_def, Rat.lt_div_iff hb', ← Rat.intCast_mul, ← Rat.intCast_mul, Rat.intCast_lt_intCast]
theorem frac_gap {p w p' w' d m : Int} (hw : 0 < w) (hw' : 0 < w') (hm : 0 < m) (h : (p * w' - p' * w) * m ≤ d * (w * w')) : Rat.divInt p w - Rat.divInt p' w' ≤ Rat.divInt d m := by
  have e : Rat.divInt p w - Rat.divInt p' w' = Rat.divInt (p * w' - p' * w) (w * w') := by
    rw [Rat.divInt_sub_divInt _ _ (by omega) (by omega)]
  rw [e, divInt_le_iff' (Int.mul_pos hw hw') hm]
  exact h
/-- the edges of two splits differ by the sway at the most -/
theorem edge_gap {ws vs : List Int} (hw : WOk ws) (hv : WOk vs) (hl : ws.length = vs.length) (k : Nat) : Rat.divInt (preS ws k) ws.sum - Rat.divInt (preS vs k) vs.sum ≤ swayR ws vs ∧ Rat.divInt (preS vs k) vs.sum - Rat.divInt (preS ws k) ws.sum ≤ swayR ws vs := by
  obtain ⟨⟨a1, a2⟩, ⟨b1, b2⟩, c⟩ := gapS_cut k ws vs hl
  have w0 := hw.sum_pos
  have v0 := hv.sum_pos
  have p0 := preS_nonneg hw.pos k
  have p1 := preS_le hw.pos k
  have q0 := preS_nonneg hv.pos k
  have q1 := preS_le hv.pos k
  generalize preS ws k = p at *
  generalize preS vs k = q at *
  have hg := gapS_nn ws vs
  unfold swayR
  generalize gapS ws vs = g at *
  generalize gapS (ws.take k) (vs.take k) = g1 at *
  generalize gapS (ws.drop k) (vs.drop k) = g2 at *
  generalize ws.sum = W at *
  generalize vs.sum = V at *
  subst c
  have key : ∀ {p W q V : Int}, p * V - q * W = p * (V - q) - q * (W - p) := fun {p W q V} => by
    rw [Int.mul_sub, Int.mul_sub, Int.mul_comm q p]; omega
  split
  · obtain ⟨c1, c2⟩ := cross_le (p := q) (r := V - q) (p' := p) (r' := W - p) (d1 := g1) (d2 := g2) (m := W) q0 (by omega) p0 (by omega) a2 a1 b2 b1 (by omega) (by omega)
    refine ⟨frac_gap w0 v0 v0 ?_, frac_gap v0 w0 v0 ?_⟩
    · rw [key, ← Int.mul_assoc]
      exact Int.mul_le_mul_of_nonneg_right c2 (by omega)
    · rw [key, Int.mul_comm V W, ← Int.mul_assoc]
      exact Int.mul_le_mul_of_nonneg_right c1 (by omega)
  · obtain ⟨c1, c2⟩ := cross_le (p := p) (r := W - p) (p' := q) (r' := V - q) (d1 := g1) (d2 := g2) (m := V) p0 (by omega) q0 (by omega) a1 a2 b1 b2 (by omega) (by omega)
    refine ⟨frac_gap w0 v0 w0 ?_, frac_gap v0 w0 w0 ?_⟩
    · rw [key, Int.mul_comm W V, ← Int.mul_assoc]
      exact Int.mul_le_mul_of_nonneg_right c1 (by omega)
    · rw [key, ← Int.mul_assoc]
      exact Int.mul_le_mul_of_nonneg_right c2 (by omega)
def absR (x : Rat) : Rat := if x < 0 then -x else x
theorem absR_le {x m : Rat} (h1 : x ≤ m) (h2 : -x ≤ m) : absR x ≤ m := by unfold absR; split <;> assumption
theorem num_neg' (x : Rat) : x.num < 0 ↔ x < 0 := by rw [Rat.lt_iff]; simp
theorem absR_d (x : Rat) : D.tup [.int (if x.num < 0 then -x.num else x.num), .int (x.den : Int)] = dR (absR x) := by
  unfold absR
  by_cases h : x < 0
  · rw [if_pos h, if_pos ((num_neg' x).mpr h)]
    unfold dR
    rw [Rat.neg_num, Rat.neg_den]
  · rw [if_neg h, if_neg fun z => h ((num_neg' x).mp z)]
    rfl
theorem Sz.absR {n : Nat} {x : Rat} (h : Sz n x) : Sz n (absR x) := by
  unfold DL.absR
  split
  · exact h.neg
  · exact h
theorem edges_gap {ws vs : List Int} (hw : WOk ws) (hv : WOk vs) (hl : ws.length = vs.length) (a : Rat) {b : Rat} (hb : 0 < b) (k : Nat) : absR (edgeAt a b ws k - edgeAt a b vs k) ≤ b * swayR ws vs := by
  obtain ⟨h1, h2⟩ := edge_gap hw hv hl k
  have e : ∀ x y : Rat, (a + b * x) - (a + b * y) = b * (x - y) := fun x y => by
    grind
  unfold edgeAt
  rw [e]
  refine absR_le (Rat.mul_le_mul_of_nonneg_left h1 (Rat.le_of_lt hb)) ?_
  rw [← Rat.mul_neg, Rat.neg_sub]
  exact Rat.mul_le_mul_of_nonneg_left h2 (Rat.le_of_lt hb)
theorem preS_sums {ws zs : List Int} (hz : SzOk zs ws.length) {k : Nat} (hk : k ≤ zs.length) : preS (sumsOf ws zs) k = preS ws (preS zs k).toNat := by
  have e := rows_take (xs := ws) hz.pos k hk
  have e2 := congrArg List.sum e
  rw [sum_flatMap] at e2
  unfold preS at e2 ⊢
  rw [← e2]
  unfold sumsOf
  rw [← List.map_take, List.take_range, Nat.min_eq_left hk]
theorem edge_sums {ws zs : List Int} (hz : SzOk zs ws.length) (a b : Rat) {k : Nat} (hk : k ≤ zs.length) : edgeAt a b (sumsOf ws zs) k = edgeAt a b ws (preS zs k).toNat := by
  unfold edgeAt
  rw [preS_sums hz hk, sums_sum hz]
theorem laid_dn {b : Bx} {ws zs : List Int} (hw : WOk ws) (hz : SzOk zs ws.length) {k j : Nat} (hk : k < zs.length) {c : Bx} (h : (laidAt b ws zs true k)[j]? = some c) :
    c.l = edgeAt b.l b.w (rowAt ws zs k) j ∧ c.l + c.w = edgeAt b.l b.w (rowAt ws zs k) (j + 1) ∧ c.t = edgeAt b.t b.h ws (preS zs k).toNat ∧ c.t + c.h = edgeAt b.t b.h ws (preS zs (k + 1)).toNat := by
  have rw_ := row_wok hw hz hk
  have hs := sums_wok hw hz
  have ei : (sumsOf ws zs)[k]? = some _ := sums_get hk
  have hj : j < (rowAt ws zs k).length := by rw [← laidAt_len b ws zs true]; exact (List.getElem?_eq_some_iff.mp h).1
  have ew := List.getElem?_eq_getElem hj
  unfold laidAt at h
  rw [split_at ew] at h
  cases h
  have e1 := edge_step b.t b.h hs ei
  rw [edge_sums hz _ _ (by omega), edge_sums hz _ _ (by omega)] at e1
  rw [splitAt_down ei]
  show (splitAt_ _ (rowAt ws zs k) false j).l = _ ∧ (splitAt_ _ (rowAt ws zs k) false j).l + (splitAt_ _ (rowAt ws zs k) false j).w = _ ∧ (splitAt_ _ (rowAt ws zs k) false j).t = _ ∧ (splitAt_ _ (rowAt ws zs k) false j).t + (splitAt_ _ (rowAt ws zs k) false j).h = _
  rw [splitAt_across ew]
  exact ⟨rfl, edge_step _ _ rw_ ew, edge_sums hz _ _ (by omega), by rw [← e1, ← edge_sums hz b.t b.h (show k ≤ zs.length by omega)]⟩
theorem laid_ac {b : Bx} {ws zs : List Int} (hw : WOk ws) (hz : SzOk zs ws.length) {k j : Nat} (hk : k < zs.length) {c : Bx} (h : (laidAt b ws zs false k)[j]? = some c) :
    c.t = edgeAt b.t b.h (rowAt ws zs k) j ∧ c.t + c.h = edgeAt b.t b.h (rowAt ws zs k) (j + 1) ∧ c.l = edgeAt b.l b.w ws (preS zs k).toNat ∧ c.l + c.w = edgeAt b.l b.w ws (preS zs (k + 1)).toNat := by
  have rw_ := row_wok hw hz hk
  have hs := sums_wok hw hz
  have ei : (sumsOf ws zs)[k]? = some _ := sums_get hk
  have hj : j < (rowAt ws zs k).length := by rw [← laidAt_len b ws zs false]; exact (List.getElem?_eq_some_iff.mp h).1
  have ew := List.getElem?_eq_getElem hj
  unfold laidAt at h
  rw [split_at ew] at h
  cases h
  have e1 := edge_step b.l b.w hs ei
  rw [edge_sums hz _ _ (by omega), edge_sums hz _ _ (by omega)] at e1
  rw [splitAt_across ei]
  show (splitAt_ _ (rowAt ws zs k) true j).t = _ ∧ (splitAt_ _ (rowAt ws zs k) true j).t + (splitAt_ _ (rowAt ws zs k) true j).h = _ ∧ (splitAt_ _ (rowAt ws zs k) true j).l = _ ∧ (splitAt_ _ (rowAt ws zs k) true j).l + (splitAt_ _ (rowAt ws zs k) true j).w = _
  rw [splitAt_down ew]
  exact ⟨rfl, edge_step _ _ rw_ ew, edge_sums hz _ _ (by omega), by rw [← e1, ← edge_sums hz b.l b.w (show k ≤ zs.length by omega)]⟩
theorem sub_wtok {ws : List Int} (hw : WtOk ws) {i n : Nat} (hn : 1 ≤ n) (h : i + n ≤ ws.length) : WtOk ((ws.drop i).take n) := by
  have hl : ((ws.drop i).take n).length = n := by rw [List.length_take, List.length_drop]; omega
  exact ⟨by omega, by have := hw.l1; omega, fun w hm => hw.rg w (List.mem_of_mem_drop (List.mem_of_mem_take hm))⟩
theorem gapS_le : ∀ (ws vs : List Int), (∀ w ∈ ws, 1 ≤ w) → (∀ w ∈ vs, 1 ≤ w) → gapS ws vs ≤ ws.sum + vs.sum
  | [], vs, _, hv => by
    have : 0 ≤ vs.sum := by have := len_le_sum hv; omega
    simp [gapS]; omega
  | a :: ws, [], hw, _ => by
    have : 0 ≤ (a :: ws).sum := by have := len_le_sum hw; omega
    simp [gapS] at *; omega
  | a :: ws, b :: vs, hw, hv => by
    have ih := gapS_le ws vs (fun w h => hw w (List.mem_cons_of_mem _ h)) (fun w h => hv w (List.mem_cons_of_mem _ h))
    have h1 := hw a (List.mem_cons_self ..)
    have h2 := hv b (List.mem_cons_self ..)
    have : gapI a b ≤ a + b := by unfold gapI; split <;> omega
    simp only [gapS, List.zipWith_cons_cons, List.sum_cons] at *
    omega
theorem sway_sz {ws vs : List Int} (hw : WOk ws) (hv : WOk vs) : Sz 24 (swayR ws vs) := by
  have h1 := gapS_nn ws vs
  have h2 := gapS_le ws vs hw.pos hv.pos
  have h3 := hw.sum
  have h4 := hv.sum
  have h5 := hw.sum_pos
  have h6 := hv.sum_pos
  unfold swayR
  split
  · exact Sz.divInt (n := 24) (by omega) (by omega) (by omega) (Nat.le_refl _)
  · exact Sz.divInt (n := 24) (by omega) (by omega) (by omega) (Nat.le_refl _)
end DL

namespace DL
open PySem PySem.Spec PyProof.Rows L2
/-! ### the end of a law -/
theorem ref_inj {o : Option Value} {a b : Addr} (h1 : o = some (.ref a)) (h2 : o = some (.ref b)) : a = b := by
  rw [h1] at h2
  cases h2
  rfl
def sp_law : DSp := fun ds cs P _ => ∃ ns : List Int, ds = [.lst (ns.map D.int)] ∧ ns.length ≤ 63 ∧ cs = [] ∧ ∀ cs', P (.bl true) cs'
theorem calmF {P : Program} {w : World} {K : PySem.W.Frag} {mg : Str → Option Value} {base : Heap} {k : Nat} {f : Addr} {fd : FuncData} {ps : List Str} {sp : Sp} (h : FnOk P w K mg base (L2.CX P w) k f fd ps sp) :
    FnOk P w K mg base CX0 k f fd ps (fun vs H Q _ => sp vs H Q fun _ _ _ => False) := by
  refine ⟨fun vs H Q E q => h.len vs H Q _ q, fun A outer s H args us vs Q E hr e0 hb r q => ?_⟩
  refine codeAny_mono (h.run A outer s H args us vs Q (fun _ _ _ => False) hr e0 hb r q) fun r s' hq => ?_
  cases r with
  | error e =>
    obtain ⟨_, _, _, _, _, _, _, _, _, _, _, _, z⟩ := hq
    exact z.elim
  | ok fl => cases fl <;> exact hq
theorem law_start {K : PySem.W.Frag} {H : Hp} {a : Addr} {ns : List Int} (hl : ns.length ≤ 63) (hS : SqL K H a (ns.map V.int)) : (fun (vs : List V) (H : Hp) (Q : VK) (_ : XK) => spL K 1 sp_law vs H Q fun _ _ _ => False) [.ref a] H (fun v _ => v = .bl true) (fun _ _ _ => False) := by
  refine ⟨fun _ => none, [], [.lst (ns.map D.int)], fun d _ => d = .bl true, fun _ _ => False, ⟨fun _ _ h => (nomatch h), Ex.refl _, List.nodup_nil, fun _ h => (nomatch h), fun _ _ h => (nomatch h), fun _ _ h => (nomatch h)⟩, ?_, rfl, ⟨ns, rfl, hl, rfl, fun _ => rfl⟩, ?_, fun _ _ _ _ _ _ h => h⟩
  · have e : pur (fun _ => none) [] H = H := by
      funext b
      exact pur_at rfl (by simp [adr])
    rw [e]
    exact .cons (.lst hS (RepL.ofInts ns)) .nil
  · intro H' cs' v d s r e
    subst e
    cases r
    rfl
end DL

/-! DLD: dicts over data. A dict that is data is one that is known to the object for good. -/
namespace DL
open PySem PySem.Spec PyProof.Rows L2
section
variable {κ : Type} [DecidableEq κ] {α : Type}
/-- what a table holds at k -/
def lk (kvs : List (κ × α)) (k : κ) : Option α := match kvs with
  | [] => none
  | p :: r => if p.1 = k then some p.2 else lk r k
/-- a table with k at v -/
def putD (kvs : List (κ × α)) (k : κ) (v : α) : List (κ × α) :=
  if (lk kvs k).isSome = true then kvs.map fun p => (p.1, if p.1 = k then v else p.2) else kvs ++ [(k, v)]
theorem look_pos {p : κ × α} {r : List (κ × α)} {k : κ} (e : p.1 = k) : lk (p :: r) k = some p.2 := by
  rw [lk, if_pos e]
theorem look_neg {p : κ × α} {r : List (κ × α)} {k : κ} (e : ¬ p.1 = k) : lk (p :: r) k = lk r k := by
  rw [lk, if_neg e]
theorem valV_look (k : κ) : ∀ kvs : List (κ × V), valV kvs k = lk kvs k
  | [] => rfl
  | p :: r => by
    by_cases e : p.1 = k
    · rw [valV_pos e, look_pos e]
    · rw [valV_neg e, look_neg e, valV_look k r]
theorem look_put_map (k j : κ) (y : α) : ∀ kvs : List (κ × α), lk (kvs.map fun p => (p.1, if p.1 = k then y else p.2)) j = (lk kvs j).map fun x => if j = k then y else x
  | [] => rfl
  | p :: r => by
    rw [List.map_cons]
    by_cases e : p.1 = j
    · rw [look_pos (p := (p.1, if p.1 = k then y else p.2)) e, look_pos e, e]; rfl
    · rw [look_neg (p := (p.1, if p.1 = k then y else p.2)) e, look_neg e, look_put_map k j y r]
theorem look_app (j : κ) (y : α) (k : κ) : ∀ kvs : List (κ × α), lk (kvs ++ [(k, y)]) j = (lk kvs j).or (if j = k then some y else none)
  | [] => by
    by_cases e : k = j
    · rw [if_pos e.symm]; exact look_pos (p := (k, y)) e
    · rw [if_neg (fun z => e z.symm)]; exact look_neg (p := (k, y)) e
  | p :: r => by
    rw [List.cons_append]
    by_cases e : p.1 = j
    · rw [look_pos e, look_pos e]; rfl
    · rw [look_neg e, look_neg e, look_app j y k r]
theorem look_putD (kvs : List (κ × α)) (k j : κ) (y : α) : lk (putD kvs k y) j = if j = k then some y else lk kvs j := by
  unfold putD
  by_cases a : (lk kvs k).isSome = true
  · rw [if_pos a, look_put_map]
    by_cases e : j = k
    · subst e
      obtain ⟨x, hx⟩ := Option.isSome_iff_exists.mp a
      rw [hx, if_pos rfl]; simp
    · rw [if_neg e]
      cases lk kvs j <;> simp [e]
  · rw [if_neg a, look_app]
    have hn : lk kvs k = none := by
      cases h : lk kvs k with
      | none => rfl
      | some v => rw [h] at a; exact (a rfl).elim
    by_cases e : j = k
    · subst e; rw [hn, if_pos rfl]; rfl
    · rw [if_neg e, if_neg e]; simp
theorem putD_new {kvs : List (κ × α)} {k : κ} (v : α) (h : lk kvs k = none) : putD kvs k v = kvs ++ [(k, v)] := by
  unfold putD
  rw [h]
  exact if_neg (fun z => by cases z)
theorem putD_len (kvs : List (κ × α)) (k : κ) (v : α) : (putD kvs k v).length ≤ kvs.length + 1 := by
  unfold putD
  split
  · rw [List.length_map]; exact Nat.le_succ _
  · rw [List.length_append]; exact Nat.le_refl _
theorem look_none_of {kvs : List (κ × α)} {k : κ} (h : ∀ p ∈ kvs, p.1 ≠ k) : lk kvs k = none := by
  induction kvs with
  | nil => rfl
  | cons p r ih => rw [look_neg (h p (List.mem_cons_self ..)), ih fun q hq => h q (List.mem_cons_of_mem _ hq)]
/-- a table made of a list: by a key that is one's own -/
theorem look_map {γ : Type} (f : γ → κ) (g : γ → α) (x : γ) : ∀ (l : List γ), x ∈ l → (∀ y ∈ l, f y = f x → y = x) → lk (l.map fun y => (f y, g y)) (f x) = some (g x)
  | [], h, _ => by cases h
  | y :: r, h, hi => by
    rw [List.map_cons]
    by_cases e : f y = f x
    · rw [look_pos (p := (f y, g y)) e, hi y (List.mem_cons_self ..) e]
    · rw [look_neg (p := (f y, g y)) e]
      refine look_map f g x r ?_ fun z hz => hi z (List.mem_cons_of_mem _ hz)
      rcases List.mem_cons.mp h with q | q
      · exact absurd (by rw [q]) e
      · exact q
theorem look_map_none {γ : Type} (f : γ → κ) (g : γ → α) (k : κ) {l : List γ} (h : ∀ y ∈ l, f y ≠ k) : lk (l.map fun y => (f y, g y)) k = none :=
  look_none_of fun p hp => by
    obtain ⟨y, hy, rfl⟩ := List.mem_map.mp hp
    exact h y hy
end
/-! ### tables of values, tables of data -/
inductive RG (K : PySem.W.Frag) (G : Hp) {κ : Type} : List (κ × V) → List (κ × D) → Prop
  | nil : RG K G [] []
  | cons {k : κ} {v : V} {vs : List (κ × V)} {d : D} {ds : List (κ × D)} : Rep K G v d → RG K G vs ds → RG K G ((k, v) :: vs) ((k, d) :: ds)
def RepQ (K : PySem.W.Frag) (G : Hp) : Option V → Option D → Prop
  | none, none => True
  | some v, some d => Rep K G v d
  | _, _ => False
section
variable {K : PySem.W.Frag} {G G' : Hp} {κ : Type} [DecidableEq κ]
theorem RepK.rg : ∀ {xs : List (Key × V)} {ds : List (Key × D)}, RepK K G xs ds → RG K G xs ds
  | _, _, .nil => .nil
  | _, _, .cons h r => .cons h r.rg
theorem RepT.rg : ∀ {xs : List (List Key × V)} {ds : List (List Key × D)}, RepT K G xs ds → RG K G xs ds
  | _, _, .nil => .nil
  | _, _, .cons h r => .cons h r.rg
theorem RG.rk {xs : List (Key × V)} {ds : List (Key × D)} (h : RG K G xs ds) : RepK K G xs ds := by
  induction h with
  | nil => exact .nil
  | cons h _ ih => exact .cons h ih
theorem RG.rt {xs : List (List Key × V)} {ds : List (List Key × D)} (h : RG K G xs ds) : RepT K G xs ds := by
  induction h with
  | nil => exact .nil
  | cons h _ ih => exact .cons h ih
theorem RG.mono (e : Ex G G') {xs : List (κ × V)} {ds : List (κ × D)} (h : RG K G xs ds) : RG K G' xs ds := by
  induction h with
  | nil => exact .nil
  | cons h _ ih => exact .cons (h.mono e) ih
theorem RG.length {xs : List (κ × V)} {ds : List (κ × D)} (h : RG K G xs ds) : xs.length = ds.length := by
  induction h with
  | nil => rfl
  | cons _ _ ih => rw [List.length_cons, List.length_cons, ih]
theorem RG.keys {xs : List (κ × V)} {ds : List (κ × D)} (h : RG K G xs ds) : xs.map (·.1) = ds.map (·.1) := by
  induction h with
  | nil => rfl
  | cons _ _ ih => rw [List.map_cons, List.map_cons, ih]
theorem RG.val {xs : List (κ × V)} {ds : List (κ × D)} (h : RG K G xs ds) (k : κ) : RepQ K G (valV xs k) (lk ds k) := by
  induction h with
  | nil => exact True.intro
  | @cons j v vs d ds hr _ ih =>
    by_cases e : j = k
    · rw [valV_pos (p := (j, v)) e, look_pos (p := (j, d)) e]; exact hr
    · rw [valV_neg (p := (j, v)) e, look_neg (p := (j, d)) e]; exact ih
theorem RG.app {xs ys : List (κ × V)} {ds es : List (κ × D)} (h : RG K G xs ds) (h2 : RG K G ys es) : RG K G (xs ++ ys) (ds ++ es) := by
  induction h with
  | nil => exact h2
  | cons h _ ih => exact .cons h ih
theorem RG.put {xs : List (κ × V)} {ds : List (κ × D)} (h : RG K G xs ds) (k : κ) {v : V} {d : D} (r : Rep K G v d) : RG K G (putK xs k v) (putD ds k d) := by
  have q := h.val k
  unfold putK putD
  rw [valV_any]
  have e : (valV xs k).isSome = (lk ds k).isSome := by
    revert q
    cases valV xs k <;> cases lk ds k <;> intro q <;> first | rfl | exact (show False from q).elim
  rw [e]
  by_cases a : (lk ds k).isSome = true
  · rw [if_pos a, if_pos a]
    clear q e a
    induction h with
    | nil => exact .nil
    | @cons j v' vs d' ds hr _ ih =>
      rw [List.map_cons, List.map_cons]
      by_cases z : j = k
      · have e1 : (if (j, v').1 = k then ((j, v').1, v) else (j, v')) = (j, v) := if_pos z
        have e2 : ((j, d').1, if (j, d').1 = k then d else (j, d').2) = (j, d) := by rw [if_pos z]
        rw [e1, e2]; exact .cons r ih
      · have e1 : (if (j, v').1 = k then ((j, v').1, v) else (j, v')) = (j, v') := if_neg z
        have e2 : ((j, d').1, if (j, d').1 = k then d else (j, d').2) = (j, d') := by rw [if_neg z]
        rw [e1, e2]; exact .cons hr ih
  · rw [if_neg a, if_neg a]
    exact h.app (.cons r .nil)
theorem RG.get {xs : List (κ × V)} {ds : List (κ × D)} (h : RG K G xs ds) : ∀ {i : Nat} {k : κ} {d : D}, ds[i]? = some (k, d) → ∃ v, xs[i]? = some (k, v) ∧ Rep K G v d := by
  induction h with
  | nil => intro i k d e; simp at e
  | @cons j v vs d' ds hr _ ih =>
    intro i k d e
    cases i with
    | zero =>
      simp at e
      obtain ⟨rfl, rfl⟩ := e
      exact ⟨v, rfl, hr⟩
    | succ i => simpa using ih (by simpa using e)
theorem RepQ.isSome {o : Option V} {d : Option D} (h : RepQ K G o d) : o.isSome = d.isSome := by
  cases o <;> cases d <;> first | rfl | exact (show False from h).elim
theorem RepQ.some_ {o : Option V} {d : D} (h : RepQ K G o (some d)) : ∃ v, o = some v ∧ Rep K G v d := by
  cases o with
  | none => exact (show False from h).elim
  | some v => exact ⟨v, rfl, h⟩
theorem RepQ.getD {o : Option V} {d : Option D} {v : V} {e : D} (h : RepQ K G o d) (r : Rep K G v e) : Rep K G (o.getD v) (d.getD e) := by
  cases o <;> cases d <;> first | exact r | exact h | exact (show False from h).elim
end
/-! ### keys -/
def kD : Key → D
  | .inl i => .int i
  | .inr x => .str x
def kOf : D → Option Key
  | .int i => some (.inl i)
  | .str x => some (.inr x)
  | _ => none
def ksOf : List D → Option (List Key)
  | [] => some []
  | d :: r => match kOf d, ksOf r with
    | some k, some ks => some (k :: ks)
    | _, _ => none
section
variable {K : PySem.W.Frag} {G : Hp}
theorem kOf_rep {v : V} {d : D} {k : Key} (h : kOf d = some k) (r : Rep K G v d) : v = kV k := by
  cases d <;> simp [kOf] at h
  · subst h; cases r; rfl
  · subst h; cases r; rfl
theorem kD_rep (k : Key) : Rep K G (kV k) (kD k) := by
  cases k with
  | inl i => exact .int i
  | inr x => exact .str x
theorem ksD_rep : ∀ (ks : List Key), RepL K G (ks.map kV) (ks.map kD)
  | [] => .nil
  | k :: r => .cons (kD_rep k) (ksD_rep r)
theorem ksOf_inv {d : D} {r : List D} {ks : List Key} (h : ksOf (d :: r) = some ks) : ∃ k q, kOf d = some k ∧ ksOf r = some q ∧ ks = k :: q := by
  simp only [ksOf] at h
  split at h
  · rename_i k q e1 e2
    cases h
    exact ⟨k, q, e1, e2, rfl⟩
  · cases h
theorem ksOf_rep : ∀ {vs : List V} {ds : List D} {ks : List Key}, ksOf ds = some ks → RepL K G vs ds → vs = ks.map kV
  | _, [], ks, h, .nil => by cases h; rfl
  | _, d :: ds, ks, h, .cons r rs => by
    obtain ⟨k, q, e1, e2, rfl⟩ := ksOf_inv h
    rw [List.map_cons, kOf_rep e1 r, ksOf_rep e2 rs]
theorem ksOf_kD : ∀ (ks : List Key), ksOf (ks.map kD) = some ks
  | [] => rfl
  | k :: r => by
    have e : kOf (kD k) = some k := by cases k <;> rfl
    simp only [List.map_cons, ksOf, e, ksOf_kD r]
end
/-! ### what stands in a dict -/
abbrev DD := List (Key × D) ⊕ List (List Key × D)
def ddAt (x : D) (cs : Cs) : Option DD := match x with
  | .dic kvs => some (.inl kvs)
  | .dct kvs => some (.inr kvs)
  | .opq (.ref p) => (match look p cs with
    | some (.dic kvs) => some (.inl kvs)
    | some (.dct kvs) => some (.inr kvs)
    | _ => none)
  | _ => none
def getV (x y : D) (cs : Cs) : Option (Option D) := match ddAt x cs with
  | some (.inl kvs) => (kOf y).map fun k => lk kvs k
  | some (.inr kvs) => (match y with
    | .tup ds => (ksOf ds).map fun ks => lk kvs ks
    | _ => none)
  | none => none
/-- what the dict at a holds at the key y -/
def LookX (K : PySem.W.Frag) (H : Hp) (a : Addr) (y : V) (r : Option V) : Prop :=
  (∃ kvs k, Rd H a (.dK kvs) ∧ y = kV k ∧ r = valV kvs k) ∨ ∃ kvs ks b, Rd H a (.dT kvs) ∧ y = .ref b ∧ SqT K H b (ks.map kV) ∧ r = valV kvs ks
section
variable {K : PySem.W.Frag} {F H : Hp} {cs : Cs}
theorem dd_k {x : V} {dx : D} {kvs : List (Key × D)} (s : Sta K F (pur F cs H) cs H) (r : Rep K (pur F cs H) x dx) (h : ddAt dx cs = some (.inl kvs)) : ∃ a xs, x = .ref a ∧ Rd H a (.dK xs) ∧ RG K (pur F cs H) xs kvs := by
  unfold ddAt at h
  split at h
  · cases h
    cases r with
    | dic e q => exact ⟨_, _, rfl, .inr ⟨_, pur_le _ _ e⟩, q.rg⟩
  · cases h
  · rename_i p
    split at h
    · rename_i kvs' e
      cases h
      cases r
      obtain ⟨o, e1, q⟩ := s.look e
      cases o <;> first | exact ⟨p, _, rfl, .inl e1, RepK.rg q⟩ | exact q.elim
    · cases h
    · cases h
  · cases h
theorem dd_t {x : V} {dx : D} {kvs : List (List Key × D)} (s : Sta K F (pur F cs H) cs H) (r : Rep K (pur F cs H) x dx) (h : ddAt dx cs = some (.inr kvs)) : ∃ a xs, x = .ref a ∧ Rd H a (.dT xs) ∧ RG K (pur F cs H) xs kvs := by
  unfold ddAt at h
  split at h
  · cases h
  · cases h
    cases r with
    | dct e q => exact ⟨_, _, rfl, .inr ⟨_, pur_le _ _ e⟩, q.rg⟩
  · rename_i p
    split at h
    · cases h
    · rename_i kvs' e
      cases h
      cases r
      obtain ⟨o, e1, q⟩ := s.look e
      cases o <;> first | exact ⟨p, _, rfl, .inl e1, RepT.rg q⟩ | exact q.elim
    · cases h
  · cases h
theorem getV_ok {x y : V} {dx dy : D} {o : Option D} (s : Sta K F (pur F cs H) cs H) (rx : Rep K (pur F cs H) x dx) (ry : Rep K (pur F cs H) y dy) (h : getV dx dy cs = some o) :
    ∃ a r, x = .ref a ∧ LookX K H a y r ∧ RepQ K (pur F cs H) r o := by
  unfold getV at h
  split at h
  · rename_i kvs e
    obtain ⟨a, xs, rfl, h1, h2⟩ := dd_k s rx e
    obtain ⟨k, hk, rfl⟩ := Option.map_eq_some_iff.mp h
    exact ⟨a, _, rfl, .inl ⟨xs, k, h1, kOf_rep hk ry, rfl⟩, h2.val k⟩
  · rename_i kvs e
    obtain ⟨a, xs, rfl, h1, h2⟩ := dd_t s rx e
    split at h
    · rename_i ds
      obtain ⟨ks, hk, rfl⟩ := Option.map_eq_some_iff.mp h
      cases ry with
      | tup q r =>
        refine ⟨a, _, rfl, .inr ⟨xs, ks, _, h1, rfl, ?_, rfl⟩, h2.val ks⟩
        rw [← ksOf_rep hk r]
        exact ex_t pur_le q
    · cases h
  · cases h
end
/-! ### the kit's own steps, the key any tuple -/
section
variable {X : Cx} {pins : List (Addr × Obj)} {σ : L2.St} {H : Hp} {s : Shared} {a b : Addr} {y v z : V} {u r : Value} {o : Option V} {A : Around} {E : Value → Shared → Prop}
theorem tup_key (I : Inv X pins σ H s) {ks : List Key} (h : SqT X.K H b (ks.map kV)) : (tupleKind (mixKind X.prog X.w)).is s.heap ks b := by
  obtain ⟨its, rv, ⟨ob, h1, h2, n, h3⟩, _⟩ := I.tuple h
  exact ⟨ob, its.toArray, n, h1, h2, h3, by simpa using items_are rv⟩
theorem lookX_isD (g : LookX X.K H a y o) : IsD H a := by
  rcases g with ⟨kvs, k, e, _⟩ | ⟨kvs, k, b, e, _⟩
  · exact .inl ⟨kvs, e⟩
  · exact .inr ⟨kvs, e⟩
theorem x_getItem {Q : Value → Shared → Prop} (hu : A.units + 1 < cLine) (I : Inv X pins σ H s) (g : LookX X.K H a y (some v)) (ry : RelV y u) (h : ∀ w' s', Inv X pins σ H s' → RelV v w' → Q w' s') :
    wpAny (model X.prog X.w) A (getItem (.ref a) u) Q E s := by
  rcases g with g | ⟨kvs, k, b, e, rfl, eb, l⟩
  · exact d_getItem hu I (.inl g) ry h
  · cases (show u = Value.ref b from ry)
    obtain ⟨_, hd, xs, rel, dd⟩ := dt_rd I.hok e
    obtain ⟨w1, hw, r1⟩ := RelO.some_of (v := v) (o := (atKey xs k).map (·.2)) (by rw [l]; exact rel.val k)
    obtain ⟨p, hp, rfl⟩ := Option.map_eq_some_iff.mp hw
    exact wpAny_getItem_heap (tupleKind_room_in1 hu) (tup_key I eb) dd hp (h _ _ (I.tok _) r1)
theorem x_in {Q : Value → Shared → Prop} (hu : A.units + 1 < cLine) (I : Inv X pins σ H s) (g : LookX X.K H a y o) (ry : RelV y u) (h : ∀ s', Inv X pins σ H s' → Q (.bool o.isSome) s') :
    wpAny (model X.prog X.w) A (compareOp .In u (.ref a)) Q E s := by
  rcases g with g | ⟨kvs, k, b, e, rfl, eb, l⟩
  · exact L2.d_in hu I (.inl g) ry h
  · cases (show u = Value.ref b from ry)
    obtain ⟨_, hd, xs, rel, dd⟩ := dt_rd I.hok e
    have q := (rel.val k).isSome_eq
    rw [Option.isSome_map, ← l] at q
    refine wpAny_in_heap (tupleKind_room_in1 hu) (tup_key I eb) hd dd ?_
    rw [← q]
    exact h _ (I.tok _)
theorem x_notIn {Q : Value → Shared → Prop} (hu : A.units + 1 < cLine) (I : Inv X pins σ H s) (g : LookX X.K H a y o) (ry : RelV y u) (h : ∀ s', Inv X pins σ H s' → Q (.bool (!o.isSome)) s') :
    wpAny (model X.prog X.w) A (compareOp .NotIn u (.ref a)) Q E s := by
  rcases g with g | ⟨kvs, k, b, e, rfl, eb, l⟩
  · exact d_notIn hu I (.inl g) ry h
  · cases (show u = Value.ref b from ry)
    obtain ⟨_, hd, xs, rel, dd⟩ := dt_rd I.hok e
    have q := (rel.val k).isSome_eq
    rw [Option.isSome_map, ← l] at q
    refine wpAny_notIn_heap (tupleKind_room_in1 hu) (tup_key I eb) hd dd ?_
    rw [← q]
    exact h _ (I.tok _)
theorem x_get2 {Q : Value → Shared → Prop} (hu : A.units + 1 < cLine) (I : Inv X pins σ H s) (g : LookX X.K H a y o) (ry : RelV y u) (rz : RelV z r) (h : ∀ w' s', Inv X pins σ H s' → RelV (o.getD z) w' → Q w' s') :
    wpAny (model X.prog X.w) A (call (.builtin "dict.get") [.ref a, u, r]) Q E s := by
  rcases g with g | ⟨kvs, k, b, e, rfl, eb, l⟩
  · exact d_get2 hu I (.inl g) ry rz h
  · cases (show u = Value.ref b from ry)
    obtain ⟨_, hd, xs, rel, dd⟩ := dt_rd I.hok e
    refine call_meetsIn PySem.F.slot_dict_get dd.typeIs PySem.F.entry_dict_get (PySem.F.args_dict_get_3 _ _ _) (meetsH_dict_get_default (tupleKind (mixKind X.prog X.w)) a b hd r) ⟨tupleKind_room_in1 hu, k, xs, tup_key I eb, dd, ?_⟩
    refine h _ _ (I.tok _) ?_
    rw [l]; exact (rel.val k).getD rz
end
/-! ### readings -/
def rDGet (K : PySem.W.Frag) : R2 := fun x y H Q => ∃ a v, x = .ref a ∧ LookX K H a y (some v) ∧ Q v H
def rDIn (K : PySem.W.Frag) : R2 := fun y x H Q => ∃ a o, x = .ref a ∧ LookX K H a y o ∧ Q (.bl o.isSome) H
def rDNotIn (K : PySem.W.Frag) : R2 := fun y x H Q => ∃ a o, x = .ref a ∧ LookX K H a y o ∧ Q (.bl (!o.isSome)) H
def oGetD : DO2 := fun x y cs P => ∃ d, getV x y cs = some (some d) ∧ P d cs
def oInD : DO2 := fun y x cs P => ∃ o, getV x y cs = some o ∧ P (.bl o.isSome) cs
def oNotInD : DO2 := fun y x cs P => ∃ o, getV x y cs = some o ∧ P (.bl (!o.isSome)) cs
section
variable {X : Cx} {W : WX} {K : PySem.W.Frag} {σ : L2.St} {H : Hp} {a b c e : Expr} {wa wb wc we : DL.WE} {pos : Pos}
theorem adq_getD : Adq K (rDGet K) oGetD := fun F cs H x y dx dy P Q s rx ry ho pe => by
  obtain ⟨d, h1, h2⟩ := ho
  obtain ⟨p, r, rfl, h3, h4⟩ := getV_ok s rx ry h1
  obtain ⟨v, rfl, h5⟩ := h4.some_
  exact ⟨p, v, rfl, h3, pe H cs _ _ s h5 h2⟩
theorem adq_inD : Adq K (rDIn K) oInD := fun F cs H x y dx dy P Q s rx ry ho pe => by
  obtain ⟨d, h1, h2⟩ := ho
  obtain ⟨p, r, rfl, h3, h4⟩ := getV_ok s ry rx h1
  exact ⟨p, r, rfl, h3, pe H cs _ _ s (by rw [h4.isSome]; exact .bl _) h2⟩
theorem adq_notInD : Adq K (rDNotIn K) oNotInD := fun F cs H x y dx dy P Q s rx ry ho pe => by
  obtain ⟨d, h1, h2⟩ := ho
  obtain ⟨p, r, rfl, h3, h4⟩ := getV_ok s ry rx h1
  exact ⟨p, r, rfl, h3, pe H cs _ _ s (by rw [h4.isSome]; exact .bl _) h2⟩
theorem pe_getX {ta tb : TE} (hu : X.A.units + 64 < cLine) (ho : PE X a ta) (hi : PE X b tb) (hs : NoSl b) : PE X (.Subscript a b pos) (tOp (rDGet X.K) ta tb) := by
  refine ⟨fun pins s σ H Q I h => ?_⟩
  refine subD_of PySem.F.slot_dict_getitem.lookup hs (thn (ho.run pins s σ H _ I h) fun u s1 ⟨x, H1, I1, rx, q1⟩ => thn (hi.run pins s1 σ H1 _ I1 q1) fun iv s2 ⟨y, H2, I2, ry, p, v, ex, g, q2⟩ => ?_)
  subst ex
  obtain rfl : u = Value.ref p := rx
  exact ⟨(isD_at I2 (lookX_isD g)).1, x_getItem (by omega) I2 g ry fun w' s3 I3 rw' => ⟨v, H2, I3, rw', q2⟩⟩
theorem op_inX (hu : X.A.units + 64 < cLine) : OpR X (compareOp .In) (rDIn X.K) := by
  intro pins s σ H x y v u Q I rx ry h
  obtain ⟨p, o, rfl, g, q⟩ := h
  obtain rfl : u = Value.ref p := ry
  exact x_in (by omega) I g rx fun s3 I3 => ⟨.bl o.isSome, H, I3, rfl, q⟩
theorem op_notInX (hu : X.A.units + 64 < cLine) : OpR X (compareOp .NotIn) (rDNotIn X.K) := by
  intro pins s σ H x y v u Q I rx ry h
  obtain ⟨p, o, rfl, g, q⟩ := h
  obtain rfl : u = Value.ref p := ry
  exact x_notIn (by omega) I g rx fun s3 I3 => ⟨.bl (!o.isSome), H, I3, rfl, q⟩
theorem d_getD (hu : X.A.units + 64 < cLine) (ha : DE X W a wa) (hb : DE X W b wb) (hs : NoSl b := by intro _ _; rfl) : DE X W (.Subscript a b pos) (wOp oGetD wa wb) := PE.imp (pe_getX hu ha hb hs) fun _ _ _ h => bin_ok adq_getD h
theorem d_inD (hu : X.A.units + 64 < cLine) (ha : DE X W a wa) (hb : DE X W b wb) (hm : behindInMarks .In b = false := by rfl) : DE X W (.Compare a [.In] [b] pos) (wOp oInD wa wb) := d_cmp (op_inX hu) adq_inD ha hb hm
theorem d_notinD (hu : X.A.units + 64 < cLine) (ha : DE X W a wa) (hb : DE X W b wb) (hm : behindInMarks .NotIn b = false := by rfl) : DE X W (.Compare a [.NotIn] [b] pos) (wOp oNotInD wa wb) := d_cmp (op_notInX hu) adq_notInD ha hb hm
theorem dt_inD (hu : X.A.units + 64 < cLine) (ha : DE X W a wa) (hb : DE X W b wb) (hm : behindInMarks .In b = false := by rfl) : DT X W (.Compare a [.In] [b] pos) (wTest (wOp oInD wa wb)) := dt_cmp (op_inX hu) adq_inD ha hb hm
theorem dt_notinD (hu : X.A.units + 64 < cLine) (ha : DE X W a wa) (hb : DE X W b wb) (hm : behindInMarks .NotIn b = false := by rfl) : DT X W (.Compare a [.NotIn] [b] pos) (wTest (wOp oNotInD wa wb)) := dt_cmp (op_notInX hu) adq_notInD ha hb hm
/-! ### new dicts -/
def wNewK : DL.WE := fun _ cs P _ => ∀ p, p ∉ adr cs → P (.opq (.ref p)) ((p, .dic []) :: cs)
def wNewT : DL.WE := fun _ cs P _ => ∀ p, p ∉ adr cs → P (.opq (.ref p)) ((p, .dct []) :: cs)
theorem d_newK : DE X W (.Dict [] [] pos) wNewK := PE.imp pe_dnewK fun σ H Q ⟨F, cs, ρ, P, Z, s, re, hw, pe, px⟩ p hp =>
  pe _ _ _ _ (s.newM (m := .dic []) (o := .dK []) hp RepK.nil) (.opq _) (hw p (s.notin hp).2)
theorem d_newT : DE X W (.Dict [] [] pos) wNewT := PE.imp pe_dnewT fun σ H Q ⟨F, cs, ρ, P, Z, s, re, hw, pe, px⟩ p hp =>
  pe _ _ _ _ (s.newM (m := .dct []) (o := .dT []) hp RepT.nil) (.opq _) (hw p (s.notin hp).2)
/-- {k: v}, the key an int or a text -/
def wOneK (wk wv : DL.WE) : DL.WE := fun ρ cs P Z => ∀ p, p ∉ adr cs → wk ρ ((p, .dic []) :: cs) (fun k cs1 => wv ρ cs1 (fun v cs2 => ∃ kk, kOf k = some kk ∧ look p cs2 = some (.dic []) ∧ P (.opq (.ref p)) (put p (.dic [(kk, v)]) cs2)) Z) Z
theorem pur_at_no {F H' : Hp} {cs : Cs} {p : Addr} (h : p ∈ adr cs) : pur F cs H' p = none := by
  unfold pur; exact if_pos (.inr h)
theorem dic_at {F G0 : Hp} {cs : Cs} {p : Addr} {ds : List (Key × D)} (s : Sta K F G0 cs H) (h : look p cs = some (.dic ds)) : ∃ vs, H p = some (.dK vs) ∧ RG K (pur F cs H) vs ds := by
  obtain ⟨o, e, q⟩ := s.look h
  cases o <;> first | exact ⟨_, e, RepK.rg q⟩ | exact q.elim
theorem dct_at {F G0 : Hp} {cs : Cs} {p : Addr} {ds : List (List Key × D)} (s : Sta K F G0 cs H) (h : look p cs = some (.dct ds)) : ∃ vs, H p = some (.dT vs) ∧ RG K (pur F cs H) vs ds := by
  obtain ⟨o, e, q⟩ := s.look h
  cases o <;> first | exact ⟨_, e, RepT.rg q⟩ | exact q.elim
theorem d_oneK {k v : Expr} {wk wv : DL.WE} (hk : DE X W k wk) (hv : DE X W v wv) : DE X W (.Dict [some k] [v] pos) (wOneK wk wv) :=
  PE.imp (pe_disp (pps_cons hk hv pps_nil) rfl rfl (fun z => by cases z) (Nat.le_of_lt_succ (by show 1 < 16; decide))) fun σ H Q h p hp => by
    obtain ⟨F, cs, ρ, P, Z, s, re, hw, pe, px⟩ := h
    have s1 := s.newM (m := .dic []) (o := .dK []) hp RepK.nil
    refine ⟨F, _, ρ, _, Z, s1.self, re.mono s1.gr, hw p (s.notin hp).2, fun H2 cs2 x dx s2 r2 h2 => ?_, px.le s1.gr⟩
    refine ⟨F, cs2, ρ, _, Z, s2.self, re.mono (s1.gr.trans s2.gr), h2, fun H3 cs3 y dy s3 r3 h3 => ?_, px.le (s1.gr.trans s2.gr)⟩
    obtain ⟨kk, e1, e2, h4⟩ := h3
    obtain ⟨vs, e3, e4⟩ := dic_at s3 e2
    cases e4
    have s4 := s3.put e2 (m' := .dic [(kk, dy)]) (o' := .dK [(kk, y)]) (RepK.cons r3 .nil)
    refine ⟨e3, [(kk, y)], by rw [kOf_rep e1 r2]; rfl, (by show 1 ≤ 15; decide), ?_⟩
    exact pe _ _ _ _ (s4.from_ ((s1.gr.trans s2.gr).trans s3.gr)) (.opq _) h4
/-! ### a dict is data from now on -/
theorem pe_keepLock {t : TE} (h : PE X e t) : PE X e (fun σ H Q => t σ H fun v H' => ∃ d u, v = .ref d ∧ H' d = some u ∧ Mut (some u) ∧ ∀ od, Q v (upd H' d (.frz od u))) := by
  refine ⟨fun pins s σ H Q I hw => ?_⟩
  refine thn (h.run pins s σ _ _ I hw) fun v s1 ⟨x, H1, I1, r, d, u, ex, hd, mu, q⟩ => ?_
  obtain ⟨od, I2⟩ := I1.lock hd mu
  exact ⟨x, _, I2, r, q od⟩
theorem Sta.lockD {F G0 : Hp} {cs : Cs} {p : Addr} {m : MO} {u : HO} (s : Sta K F G0 cs H) (hl : DL.look p cs = some m) (hu : H p = some u) (od : Obj) :
    Sta K F G0 (del p cs) (upd H p (.frz od u)) ∧ Ex (pur F cs H) (pur F (del p cs) (upd H p (.frz od u))) ∧ pur F (del p cs) (upd H p (.frz od u)) p = some (.frz od u) := by
  obtain ⟨n1, n2⟩ := nd_del (p := p) s.nd
  have hp : p ∈ adr cs := List.mem_map.mpr ⟨(p, m), look_mem hl, rfl⟩
  have hF : F p = none := s.ap p hp
  have g : Ex (pur F cs H) (pur F (del p cs) (upd H p (.frz od u))) := fun b w e => by
    obtain ⟨e1, e2, e3⟩ := pur_of e
    have hb : b ≠ p := fun z => e3 (by rw [z]; exact hp)
    rw [pur_at e2 fun z => e3 (adr_del z), upd_ne hb]; exact e1
  refine ⟨⟨fun b w e => ?_, s.gr.trans g, n1, fun a h => s.ap a (adr_del h), fun a m' h => ?_, s.ft⟩, g, by rw [pur_at hF n2, upd_same]⟩
  · rw [upd_ne fun z => by rw [z, hF] at e; cases e]; exact s.fr b w e
  · obtain ⟨w, hw, r⟩ := s.ow a m' (mem_del h)
    refine ⟨w, ?_, r.mono g⟩
    have ha : a ∈ adr (del p cs) := List.mem_map.mpr ⟨(a, m'), h, rfl⟩
    have hap : a ≠ p := fun z => n2 (by rw [z] at ha; exact ha)
    rw [upd_ne hap]; exact hw
/-- a changing dict becomes data -/
def wLockD (we : DL.WE) : DL.WE := fun ρ cs P Z => we ρ cs (fun d cs1 => ∃ p, d = .opq (.ref p) ∧ ((∃ kvs, look p cs1 = some (.dic kvs) ∧ P (.dic kvs) (del p cs1)) ∨ ∃ kvs, look p cs1 = some (.dct kvs) ∧ P (.dct kvs) (del p cs1))) Z
theorem d_lockD (h : DE X W e we) : DE X W e (wLockD we) := PE.imp (pe_keepLock h) fun σ H Q hq => by
  obtain ⟨F, cs, ρ, P, Z, s, re, hw, pe, px⟩ := hq
  refine ⟨F, cs, ρ, _, Z, s, re, hw, fun H1 cs1 v d s1 r1 h1 => ?_, px⟩
  obtain ⟨p, rfl, ⟨kvs, hl, h2⟩ | ⟨kvs, hl, h2⟩⟩ := h1
  · cases r1
    obtain ⟨vs, e1, q1⟩ := dic_at s1 hl
    refine ⟨p, _, rfl, e1, True.intro, fun od => ?_⟩
    obtain ⟨s2, g2, e2⟩ := s1.lockD hl e1 od
    exact pe _ _ _ _ s2 (.dic e2 (q1.mono g2).rk) h2
  · cases r1
    obtain ⟨vs, e1, q1⟩ := dct_at s1 hl
    refine ⟨p, _, rfl, e1, True.intro, fun od => ?_⟩
    obtain ⟨s2, g2, e2⟩ := s1.lockD hl e1 od
    exact pe _ _ _ _ s2 (.dct e2 (q1.mono g2).rt) h2
/-! ### d[k] = v -/
def oSetDK : DSet := fun o i v cs Q => match o with
  | .opq (.ref p) => (match look p cs with
    | some (.dic ds) => ∃ k, kOf i = some k ∧ ds.length < 100000 ∧ Q (put p (.dic (putD ds k v)) cs)
    | _ => False)
  | _ => False
theorem setDK_inv {o i v : D} {cs : Cs} {Q : Cs → Prop} (h : oSetDK o i v cs Q) : ∃ p ds k, o = .opq (.ref p) ∧ look p cs = some (.dic ds) ∧ kOf i = some k ∧ ds.length < 100000 ∧ Q (put p (.dic (putD ds k v)) cs) := by
  unfold oSetDK at h
  split at h
  · split at h
    · rename_i e
      obtain ⟨k, h1, h2, h3⟩ := h
      exact ⟨_, _, k, rfl, e, h1, h2, h3⟩
    · exact h.elim
  · exact h.elim
def rSetD : V → V → V → Hp → (Hp → Prop) → Prop := fun o i v H Q => ∃ p H', o = .ref p ∧ DPut H p i v H' ∧ Q H'
theorem set_dict (hu : X.A.units + 64 < cLine) : PSet X rSetD := by
  intro pins s σ H o i v ov iv u Q I ro ri rv h
  obtain ⟨p, H', rfl, g, q⟩ := h
  cases ro
  exact d_setItem (by omega) I g ri rv fun s4 I4 => ⟨H', I4, q⟩
theorem ds_setDK {o i v : Expr} {wo wi wv : DL.WE} {p1 : Pos} (hu : X.A.units + 64 < cLine) (hv : DE X W v wv) (ho : DE X W o wo) (hi : DE X W i wi)
    (ha : ∀ u, assign (.Subscript o i p1) X.env u = (do
      let ov ← holding [u] (eval o X.env)
      let iv ← holding [u, ov] (eval i X.env)
      standAt p1
      holding [u, ov, iv] (setItem ov iv u)
      release [u, ov, iv] []) := by intro _; rfl)
    (hs : swapsWithSole [.Subscript o i p1] v pos.line X.env = pure false := by rfl) (hw : swappedStores [.Subscript o i p1] v X.env = pure none := by rfl) (h1 : (assignEach [.Subscript o i p1] X.env).map (·.2) = [assign (.Subscript o i p1) X.env] := by rfl) :
    DS X W (.Assign [.Subscript o i p1] v pos) (sSetIx wv wo wi oSetDK) := PS.imp (ps_asg hv (pg_sub ho hi (set_dict hu) ha) hs hw h1) fun E σ H h => by
  obtain ⟨F, cs, ρ, f, s, re, hw, pe⟩ := h
  refine ⟨F, cs, ρ, _, _, s, re, hw, fun H1 cs1 y dy s1 r1 h1 => ?_, pe.px re⟩
  refine ⟨F, cs1, ρ, _, _, s1.self, re.mono s1.gr, h1, fun H2 cs2 x dx s2 r2 h2 => ?_, (pe.le s1.gr).px (re.mono s1.gr)⟩
  refine ⟨F, cs2, ρ, _, _, s2.self, re.mono (s1.gr.trans s2.gr), h2, fun H3 cs3 z dz s3 r3 h3 => ?_, (pe.le (s1.gr.trans s2.gr)).px (re.mono (s1.gr.trans s2.gr))⟩
  obtain ⟨p, ds, k, rfl, hl, hk, hz, h⟩ := setDK_inv h3
  obtain ⟨vs, e, rl⟩ := dic_at s3 hl
  cases r2
  have s4 := s3.put hl (m' := .dic (putD ds k dy)) (o' := .dK (putK vs k y)) (rl.put k (r1.mono (s2.gr.trans s3.gr))).rk
  refine ⟨p, _, rfl, .inl ⟨vs, k, e, kOf_rep hk r3, ?_, rfl⟩, ?_⟩
  · rw [rl.length]; exact Nat.lt_of_lt_of_le hz (by decide)
  have g := (s1.gr.trans s2.gr).trans s3.gr
  exact pe.nx _ _ σ ρ (s4.from_ g) (re.mono (g.trans s4.gr)) h
/-- d[(a, ..)] = v -/
def oSetDT (p : D) (ds : List D) (v : D) (cs : Cs) (Q : Cs → Prop) : Prop := match p with
  | .opq (.ref p) => (match look p cs with
    | some (.dct xs) => ∃ ks, ksOf ds = some ks ∧ xs.length < 100000 ∧ Q (put p (.dct (putD xs ks v)) cs)
    | _ => False)
  | _ => False
theorem setDT_inv {o v : D} {ds : List D} {cs : Cs} {Q : Cs → Prop} (h : oSetDT o ds v cs Q) : ∃ p xs ks, o = .opq (.ref p) ∧ look p cs = some (.dct xs) ∧ ksOf ds = some ks ∧ xs.length < 100000 ∧ Q (put p (.dct (putD xs ks v)) cs) := by
  unfold oSetDT at h
  split at h
  · split at h
    · rename_i e
      obtain ⟨k, h1, h2, h3⟩ := h
      exact ⟨_, _, k, rfl, e, h1, h2, h3⟩
    · exact h.elim
  · exact h.elim
def sSetT (wv wo : DL.WE) (w : WA) : WS := fun f ρ cs => wv ρ cs (fun v cs1 => wo ρ cs1 (fun x cs2 => w ρ cs2 (fun ds cs3 => oSetDT x ds v cs3 fun cs4 => f.nx ρ cs4) (fun x cs1 => f.ex x ρ cs1)) (fun x cs1 => f.ex x ρ cs1)) (fun x cs1 => f.ex x ρ cs1)
theorem ds_setDT {o v : Expr} {es : List Expr} {wo wv : DL.WE} {w : WA} {p1 p2 : Pos} {kt : Nat} (hu : X.A.units + 64 < cLine) (hv : DE X W v wv) (ho : DE X W o wo) (hi : DA X W es w) (hn : es.length ≤ 1000 := by decide)
    (ha : ∀ u, assign (.Subscript o (.Tuple es kt p2) p1) X.env u = (do
      let ov ← holding [u] (eval o X.env)
      let iv ← holding [u, ov] (eval (.Tuple es kt p2) X.env)
      standAt p1
      holding [u, ov, iv] (setItem ov iv u)
      release [u, ov, iv] []) := by intro _; rfl)
    (hs : swapsWithSole [.Subscript o (.Tuple es kt p2) p1] v pos.line X.env = pure false := by rfl) (hw : swappedStores [.Subscript o (.Tuple es kt p2) p1] v X.env = pure none := by rfl) (h1 : (assignEach [.Subscript o (.Tuple es kt p2) p1] X.env).map (·.2) = [assign (.Subscript o (.Tuple es kt p2) p1) X.env] := by rfl) :
    DS X W (.Assign [.Subscript o (.Tuple es kt p2) p1] v pos) (sSetT wv wo w) := PS.imp (ps_asg hv (pg_sub ho (pe_tup hi) (set_dict hu) ha) hs hw h1) fun E σ H h => by
  obtain ⟨F, cs, ρ, f, s, re, hw, pe⟩ := h
  refine ⟨F, cs, ρ, _, _, s, re, hw, fun H1 cs1 y dy s1 r1 h1 => ?_, pe.px re⟩
  refine ⟨F, cs1, ρ, _, _, s1.self, re.mono s1.gr, h1, fun H2 cs2 x dx s2 r2 h2 => ?_, (pe.le s1.gr).px (re.mono s1.gr)⟩
  refine ⟨F, cs2, ρ, _, _, s2.self, re.mono (s1.gr.trans s2.gr), h2, fun H3 cs3 zs dzs s3 r3 l3 h3 => ⟨by rw [r3.length, l3]; exact small_es hn, fun t ht => ?_⟩, (pe.le (s1.gr.trans s2.gr)).px (re.mono (s1.gr.trans s2.gr))⟩
  obtain ⟨p, ds, ks, rfl, hl, hk, hz, h⟩ := setDT_inv h3
  obtain ⟨s3', et⟩ := s3.new (o := .tup zs) ht
  obtain ⟨vs, e, rl⟩ := dct_at s3' hl
  cases r2
  have g3 := s3.gr.trans s3'.gr
  have s4 := s3'.put hl (m' := .dct (putD ds ks dy)) (o' := .dT (putK vs ks y)) (rl.put ks (r1.mono (s2.gr.trans g3))).rt
  refine ⟨p, _, rfl, .inr ⟨vs, ks, t, e, rfl, ?_, ?_, rfl⟩, ?_⟩
  · rw [← ksOf_rep hk r3]; exact pur_le _ _ et
  · rw [rl.length]; exact Nat.lt_of_lt_of_le hz (by decide)
  have g := (s1.gr.trans s2.gr).trans g3
  exact pe.nx _ _ σ ρ (s4.from_ g) (re.mono (g.trans s4.gr)) h
end
/-! ### going through -/
section
variable {ρ : DL.Env} {cs : Cs} {P : DP} {Z : XZ} {we wv wo wi wk : DL.WE} {w : WA} {d : D} {p : Addr} {i j : Int} {x : Str} {kvs : List (Key × D)} {kts : List (List Key × D)} {R : Cs → Prop}
theorem r_getKI (h1 : lk kvs (.inl i) = some d) (h : P d cs) : oGetD (.dic kvs) (.int i) cs P := ⟨d, by simp [getV, ddAt, kOf, h1], h⟩
theorem r_getKS (h1 : lk kvs (.inr x) = some d) (h : P d cs) : oGetD (.dic kvs) (.str x) cs P := ⟨d, by simp [getV, ddAt, kOf, h1], h⟩
theorem r_getT2 (h1 : lk kts [.inl i, .inl j] = some d) (h : P d cs) : oGetD (.dct kts) (.tup [.int i, .int j]) cs P := ⟨d, by simp [getV, ddAt, kOf, ksOf, h1], h⟩
theorem r_getMI (hl : look p cs = some (.dic kvs)) (h1 : lk kvs (.inl i) = some d) (h : P d cs) : oGetD (.opq (.ref p)) (.int i) cs P := ⟨d, by simp [getV, ddAt, hl, kOf, h1], h⟩
theorem r_getMS (hl : look p cs = some (.dic kvs)) (h1 : lk kvs (.inr x) = some d) (h : P d cs) : oGetD (.opq (.ref p)) (.str x) cs P := ⟨d, by simp [getV, ddAt, hl, kOf, h1], h⟩
theorem r_getMT2 (hl : look p cs = some (.dct kts)) (h1 : lk kts [.inl i, .inl j] = some d) (h : P d cs) : oGetD (.opq (.ref p)) (.tup [.int i, .int j]) cs P := ⟨d, by simp [getV, ddAt, hl, kOf, ksOf, h1], h⟩
theorem r_inKI (h : P (.bl (lk kvs (.inl i)).isSome) cs) : oInD (.int i) (.dic kvs) cs P := ⟨_, by simp [getV, ddAt, kOf], h⟩
theorem r_inKS (h : P (.bl (lk kvs (.inr x)).isSome) cs) : oInD (.str x) (.dic kvs) cs P := ⟨_, by simp [getV, ddAt, kOf], h⟩
theorem r_inT2 (h : P (.bl (lk kts [.inl i, .inl j]).isSome) cs) : oInD (.tup [.int i, .int j]) (.dct kts) cs P := ⟨_, by simp [getV, ddAt, kOf, ksOf], h⟩
theorem r_inMI (hl : look p cs = some (.dic kvs)) (h : P (.bl (lk kvs (.inl i)).isSome) cs) : oInD (.int i) (.opq (.ref p)) cs P := ⟨_, by simp [getV, ddAt, hl, kOf], h⟩
theorem r_inMS (hl : look p cs = some (.dic kvs)) (h : P (.bl (lk kvs (.inr x)).isSome) cs) : oInD (.str x) (.opq (.ref p)) cs P := ⟨_, by simp [getV, ddAt, hl, kOf], h⟩
theorem r_notKI (h : P (.bl (!(lk kvs (.inl i)).isSome)) cs) : oNotInD (.int i) (.dic kvs) cs P := ⟨_, by simp [getV, ddAt, kOf], h⟩
theorem r_notKS (h : P (.bl (!(lk kvs (.inr x)).isSome)) cs) : oNotInD (.str x) (.dic kvs) cs P := ⟨_, by simp [getV, ddAt, kOf], h⟩
theorem r_notMI (hl : look p cs = some (.dic kvs)) (h : P (.bl (!(lk kvs (.inl i)).isSome)) cs) : oNotInD (.int i) (.opq (.ref p)) cs P := ⟨_, by simp [getV, ddAt, hl, kOf], h⟩
theorem r_notMS (hl : look p cs = some (.dic kvs)) (h : P (.bl (!(lk kvs (.inr x)).isSome)) cs) : oNotInD (.str x) (.opq (.ref p)) cs P := ⟨_, by simp [getV, ddAt, hl, kOf], h⟩
theorem r_newK (h : ∀ p, p ∉ adr cs → P (.opq (.ref p)) ((p, .dic []) :: cs)) : wNewK ρ cs P Z := h
theorem r_newT (h : ∀ p, p ∉ adr cs → P (.opq (.ref p)) ((p, .dct []) :: cs)) : wNewT ρ cs P Z := h
theorem r_oneK (h : ∀ p, p ∉ adr cs → wk ρ ((p, .dic []) :: cs) (fun k cs1 => wv ρ cs1 (fun v cs2 => ∃ kk, kOf k = some kk ∧ look p cs2 = some (.dic []) ∧ P (.opq (.ref p)) (put p (.dic [(kk, v)]) cs2)) Z) Z) : wOneK wk wv ρ cs P Z := h
theorem r_oneE {v : D} (h : P (.opq (.ref p)) ((p, .dic [(.inl i, v)]) :: cs)) : ∃ kk, kOf (.int i) = some kk ∧ look p ((p, .dic []) :: cs) = some (.dic []) ∧ P (.opq (.ref p)) (put p (.dic [(kk, v)]) ((p, .dic []) :: cs)) := ⟨.inl i, rfl, by simp [look], by rw [put_hd]; exact h⟩
theorem r_oneES {v : D} (h : P (.opq (.ref p)) ((p, .dic [(.inr x, v)]) :: cs)) : ∃ kk, kOf (.str x) = some kk ∧ look p ((p, .dic []) :: cs) = some (.dic []) ∧ P (.opq (.ref p)) (put p (.dic [(kk, v)]) ((p, .dic []) :: cs)) := ⟨.inr x, rfl, by simp [look], by rw [put_hd]; exact h⟩
theorem r_lockD (h : we ρ cs (fun d cs1 => ∃ p, d = .opq (.ref p) ∧ ((∃ kvs, look p cs1 = some (.dic kvs) ∧ P (.dic kvs) (del p cs1)) ∨ ∃ kvs, look p cs1 = some (.dct kvs) ∧ P (.dct kvs) (del p cs1))) Z) : wLockD we ρ cs P Z := h
theorem r_lockK (h : P (.dic kvs) cs) : ∃ q, D.opq (.ref p) = .opq (.ref q) ∧ ((∃ kvs', look q ((p, .dic kvs) :: cs) = some (.dic kvs') ∧ P (.dic kvs') (del q ((p, .dic kvs) :: cs))) ∨ ∃ kvs', look q ((p, .dic kvs) :: cs) = some (.dct kvs') ∧ P (.dct kvs') (del q ((p, .dic kvs) :: cs))) := ⟨p, rfl, .inl ⟨kvs, by simp [look], by rw [del_hd]; exact h⟩⟩
theorem r_lockT (h : P (.dct kts) cs) : ∃ q, D.opq (.ref p) = .opq (.ref q) ∧ ((∃ kvs', look q ((p, .dct kts) :: cs) = some (.dic kvs') ∧ P (.dic kvs') (del q ((p, .dct kts) :: cs))) ∨ ∃ kvs', look q ((p, .dct kts) :: cs) = some (.dct kvs') ∧ P (.dct kvs') (del q ((p, .dct kts) :: cs))) := ⟨p, rfl, .inr ⟨kts, by simp [look], by rw [del_hd]; exact h⟩⟩
theorem r_setKI (hz : kvs.length < 100000) (h : R ((p, .dic (putD kvs (.inl i) d)) :: cs)) : oSetDK (.opq (.ref p)) (.int i) d ((p, .dic kvs) :: cs) R := by
  unfold oSetDK; simp only [look, if_true]; exact ⟨.inl i, rfl, hz, by rw [put_hd]; exact h⟩
theorem r_setKS (hz : kvs.length < 100000) (h : R ((p, .dic (putD kvs (.inr x) d)) :: cs)) : oSetDK (.opq (.ref p)) (.str x) d ((p, .dic kvs) :: cs) R := by
  unfold oSetDK; simp only [look, if_true]; exact ⟨.inr x, rfl, hz, by rw [put_hd]; exact h⟩
theorem r_setT2 (hz : kts.length < 100000) (h : R ((p, .dct (putD kts [.inl i, .inl j] d)) :: cs)) : oSetDT (.opq (.ref p)) [.int i, .int j] d ((p, .dct kts) :: cs) R := by
  unfold oSetDT; simp only [look, if_true]; exact ⟨[.inl i, .inl j], rfl, hz, by rw [put_hd]; exact h⟩
section
variable {nx bk ct : DL.Env → Cs → Prop} {rt : D → Cs → Prop} {ex : Exn → DL.Env → Cs → Prop}
theorem q_setDK (h : wv ρ cs (fun v cs1 => wo ρ cs1 (fun x cs2 => wi ρ cs2 (fun i cs3 => oSetDK x i v cs3 fun cs4 => nx ρ cs4) (fun x cs1 => ex x ρ cs1)) (fun x cs1 => ex x ρ cs1)) (fun x cs1 => ex x ρ cs1)) : sSetIx wv wo wi oSetDK ⟨nx, rt, ex, bk, ct⟩ ρ cs := h
theorem q_setDT (h : wv ρ cs (fun v cs1 => wo ρ cs1 (fun x cs2 => w ρ cs2 (fun ds cs3 => oSetDT x ds v cs3 fun cs4 => nx ρ cs4) (fun x cs1 => ex x ρ cs1)) (fun x cs1 => ex x ρ cs1)) (fun x cs1 => ex x ρ cs1)) : sSetT wv wo w ⟨nx, rt, ex, bk, ct⟩ ρ cs := h
end
end
section
variable {ρ : DL.Env} {cs : Cs} {Z : XZ} {wa wb : DL.WE}
theorem r_rg2 {R : List D → Cs → Prop} (h : wa ρ cs (fun x cs1 => wb ρ cs1 (fun y cs2 => match x, y with | .int i, .int j => (-(2 ^ 62) ≤ i ∧ i < 2 ^ 62 ∧ -(2 ^ 62) ≤ j ∧ j < 2 ^ 62) ∧ R (rngD i (j - i).toNat) cs2 | _, _ => False) Z) Z) : iRg2 (wCons wa (wCons wb wNil)) ρ cs R Z := by
  unfold iRg2 wCons wNil
  have e : (fun (x : D) (cs1 : Cs) => wb ρ cs1 (fun (y : D) (cs2 : Cs) => (match [x, y] with | [D.int i, D.int j] => (-(2 ^ 62) ≤ i ∧ i < 2 ^ 62 ∧ -(2 ^ 62) ≤ j ∧ j < 2 ^ 62) ∧ R (rngD i (j - i).toNat) cs2 | _ => False)) Z)
      = fun (x : D) (cs1 : Cs) => wb ρ cs1 (fun y cs2 => match x, y with | .int i, .int j => (-(2 ^ 62) ≤ i ∧ i < 2 ^ 62 ∧ -(2 ^ 62) ≤ j ∧ j < 2 ^ 62) ∧ R (rngD i (j - i).toNat) cs2 | _, _ => False) Z := by
    funext x cs1
    congr 1
    funext y cs2
    cases x <;> cases y <;> rfl
  rw [← e] at h
  exact h
theorem rng0 (n : Nat) : rngD 0 n = (List.range n).map fun (i : Nat) => D.int (i : Int) := by
  unfold rngD
  refine List.map_congr_left fun i _ => ?_
  rw [Int.zero_add]
theorem rng0' {i : Int} {n : Nat} (h : i.toNat = n) : rngD 0 i.toNat = (List.range n).map fun (i : Nat) => D.int (i : Int) := by rw [h, rng0]
theorem rng1' {lo i : Int} {a n : Nat} (h : i.toNat = n) (hl : lo = a) : rngD lo i.toNat = (List.range n).map fun (i : Nat) => D.int ((a + i : Nat) : Int) := by
  rw [h, hl]
  unfold rngD
  refine List.map_congr_left fun i _ => ?_
  rw [Int.natCast_add]
end
end DL

/-! DLQ: walks of dicts that are data; comprehensions that make dicts. -/
namespace DL
open PySem PySem.Spec PyProof.Rows L2
section
variable {X : Cx} {W : WX} {K : PySem.W.Frag} {σ : L2.St} {H : Hp} {e : Expr} {we : DL.WE} {pos : Pos}
/-- a tuple that is tracked is data -/
theorem tup_pur {F : Hp} {cs : Cs} {q : Addr} {ys : List V} {G0 : Hp} (s : Sta K F G0 cs H) (h : H q = some (.tup ys)) : pur F cs H q = some (.tup ys) := by
  have hF : F q = none := by
    cases e : F q with
    | none => rfl
    | some o =>
      have := s.fr q o e
      rw [h] at this
      cases this
      exact absurd e (s.ft q ys)
  rw [pur_at hF fun z => ?_]
  · exact h
  · obtain ⟨⟨a, m⟩, hm, ea⟩ := List.mem_map.mp z
    obtain ⟨u, hu, r⟩ := s.ow a m hm
    have ea' : a = q := ea
    rw [ea', h] at hu
    cases hu
    cases m <;> exact r
theorem yi_keysK {G : Hp} {a : Addr} {o : Obj} {xs : List (Key × V)} (h : G a = some (.frz o (.dK xs))) : YI K (Itk a o xs) G (xs.map fun p => kD p.1) where
  go := fun i d e F cs H s => by
    have z := (List.getElem?_eq_some_iff.mp e).1
    rw [List.length_map] at z
    exact ⟨pur_le _ _ (s.gr _ _ h), z⟩
  yld := fun i d e F cs H x H' s hy => by
    obtain ⟨rfl, k, v, e1, rfl⟩ := hy
    rw [List.getElem?_map, e1] at e
    cases e
    exact ⟨s.self, kD_rep k⟩
  stop := fun F cs H s => ⟨pur_le _ _ (s.gr _ _ h), by rw [List.length_map]; exact Nat.le_refl _⟩
theorem yi_keysT {G : Hp} {a : Addr} {o : Obj} {xs : List (List Key × V)} (h : G a = some (.frz o (.dT xs))) : YI K (Itkt a o xs) G (xs.map fun p => D.tup (p.1.map kD)) where
  go := fun i d e F cs H s => by
    have z := (List.getElem?_eq_some_iff.mp e).1
    rw [List.length_map] at z
    exact ⟨pur_le _ _ (s.gr _ _ h), z⟩
  yld := fun i d e F cs H x H' s hy => by
    obtain ⟨rfl, k, v, q, e1, rfl, e2⟩ := hy
    rw [List.getElem?_map, e1] at e
    cases e
    exact ⟨s.self, .tup (SqT.of (tup_pur s e2)) (ksD_rep k)⟩
  stop := fun F cs H s => ⟨pur_le _ _ (s.gr _ _ h), by rw [List.length_map]; exact Nat.le_refl _⟩
def iKeysD (we : DL.WE) : WI := fun ρ cs P Z => we ρ cs (fun d cs1 => match d with
  | .dic kvs => P (kvs.map fun p => kD p.1) cs1
  | .dct kvs => P (kvs.map fun p => D.tup (p.1.map kD)) cs1
  | _ => False) Z
theorem keys_eq {κ β : Type} {G : Hp} {xs : List (κ × V)} {ds : List (κ × D)} (f : κ → β) (h : RG K G xs ds) : (xs.map fun p => f p.1) = ds.map fun p => f p.1 := by
  induction h with
  | nil => rfl
  | cons _ _ ih => rw [List.map_cons, List.map_cons, ih]
theorem di_keys {tg : Expr} (h : DE X W e we) : DI X W tg e (iKeysD we) := PI.imp (pi_keys h) fun σ H R hq => by
  obtain ⟨F, cs, ρ, P, Z, s, re, hw, pe, px⟩ := hq
  refine ⟨F, cs, ρ, _, Z, s, re, hw, fun H1 cs1 v d s1 r1 h1 => ?_, px⟩
  cases d <;> try exact h1.elim
  · cases r1 with
    | dic e1 q =>
      refine ⟨_, _, rfl, .inl ⟨_, pur_le _ _ e1, pe H1 cs1 _ _ s1 (yi_keysK e1) ?_⟩⟩
      rw [keys_eq kD q.rg]; exact h1
  · cases r1 with
    | dct e1 q =>
      refine ⟨_, _, rfl, .inr ⟨_, pur_le _ _ e1, pe H1 cs1 _ _ s1 (yi_keysT e1) ?_⟩⟩
      rw [keys_eq (fun k => D.tup (k.map kD)) q.rg]; exact h1
/-! ### {k: v for target in iter if test}, k an int or a text -/
def dcW (g : WG) (wt : WT) (wk wv : DL.WE) : List D → DL.Env → Cs → List (Key × D) → (List (Key × D) → Cs → Prop) → Prop
  | [], _, cs, acc, P => P acc cs
  | d :: r, ρ, cs, acc, P => g d ρ fun ρ1 => wt ρ1 cs (fun k cs1 => (k = true → wk ρ1 cs1 (fun y cs2 => wv ρ1 cs2 (fun z cs3 => ∃ kk, kOf y = some kk ∧ dcW g wt wk wv r ρ cs3 (putD acc kk z) P) Z0) Z0) ∧ (k = false → dcW g wt wk wv r ρ cs1 acc P)) Z0
def wDcR (wi : WI) (g : WG) (wt : WT) (wk wv : DL.WE) (vs : List Nat) (R : DP → List (Key × D) → Cs → Prop) : DL.WE := fun ρ cs P Z => wi ρ cs (fun xs cs1 => xs.length ≤ 100000 ∧ dcW g wt wk wv xs (wipeD ρ vs) cs1 [] (R P)) Z
abbrev RMK : DP → List (Key × D) → Cs → Prop := fun P ds cs2 => ∀ p, p ∉ adr cs2 → P (.opq (.ref p)) ((p, .dic ds) :: cs2)
/-- a thing that was put aside comes to be one that may change -/
theorem dcK_ok {wi : WI} {g : TG} {gd : WG} {wt : WT} {wk wv : DL.WE} {vs : List Nat} (gk : GOk K g gd vs) {Q : VK} : lE K W (wDcR wi gd wt wk wv vs RMK) σ H Q → tDc (lI K W wi) g (lT K W0 wt) (lE K W0 wk) (lE K W0 wv) vs σ H Q := by
  rintro ⟨F, cs, ρ, P, Z, s, re, hw, pe, px⟩
  refine ⟨F, cs, ρ, _, Z, s, re, hw, fun H1 cs1 J xs s1 yi h1 => ?_, px⟩
  intro D hD
  obtain ⟨hlen, h1⟩ := h1
  have hFD : F D = none := s1.fr.back hD
  have reW : RepE K (pur F cs1 H1) (L2.wipe σ vs) (wipeD ρ vs) := (re.mono s1.gr).wipe vs
  refine ⟨fun i m H' => i ≤ xs.length ∧ m = xs.length - i ∧ ∃ cs' acc vacc, Sta K (upd F D (.dK vacc)) (pur F cs1 H1) cs' H' ∧ RG K (pur (upd F D (.dK vacc)) cs' H') vacc acc ∧ acc.length ≤ i ∧ dcW gd wt wk wv (xs.drop i) (wipeD ρ vs) cs' acc (RMK P),
    ⟨xs.length, Nat.zero_le _, rfl, cs1, [], [], s1.aside hD, .nil, Nat.le_refl _, h1⟩, ?_⟩
  rintro i m H2 ⟨hi, rfl, cs2, acc, vacc, s2, ra, hla, h2⟩
  cases e : xs.drop i with
  | nil =>
    have hl : xs.length ≤ i := by
      have z := congrArg List.length e
      rw [List.length_drop] at z
      have z' : xs.length - i = 0 := z
      omega
    have hie : i = xs.length := by omega
    rw [e] at h2
    refine .inl ⟨by rw [hie]; exact yi.stop _ cs2 H2 s2, ?_⟩
    obtain ⟨s3, hn⟩ := (s2.from_ s1.gr).backM (m := .dic acc) hFD ra.rk
    exact pe H2 _ _ _ s3 (.opq _) (h2 D hn)
  | cons d r =>
    obtain ⟨e1, e2⟩ := drop_cons e
    have hlt : i < xs.length := (List.getElem?_eq_some_iff.mp e1).1
    rw [e] at h2
    refine .inr ⟨yi.go i d e1 _ cs2 H2 s2, fun H' => ∃ cs' acc vacc, Sta K (upd F D (.dK vacc)) (pur F cs1 H1) cs' H' ∧ RG K (pur (upd F D (.dK vacc)) cs' H') vacc acc ∧ acc.length ≤ i + 1 ∧ dcW gd wt wk wv r (wipeD ρ vs) cs' acc (RMK P), ?_, ?_⟩
    · rintro H' ⟨cs', acc', vacc', s', ra', hl', h'⟩
      exact ⟨xs.length - (i + 1), by omega, by omega, rfl, cs', acc', vacc', s', ra', hl', by rw [e2]; exact h'⟩
    · intro x H3 hy
      obtain ⟨s3, r3⟩ := yi.yld i d e1 _ cs2 H2 x H3 s2 hy
      refine gk _ cs2 H3 _ (wipeD ρ vs) x d _ _ s3.self (reW.mono (s2.gr.trans s3.gr)) r3 wipe_wipe h2 fun σ4 ρ4 hw4 re4 h4 => ⟨hw4.trans rfl, ?_⟩
      refine ⟨_, cs2, ρ4, _, Z0, s3.self, re4, h4, fun H5 cs5 k s5 h5 => ?_, fun _ _ _ _ _ _ z => z⟩
      cases k with
      | false => exact iteF ⟨cs5, acc, vacc, s5.from_ (s2.gr.trans s3.gr), ra.mono (s3.gr.trans s5.gr), Nat.le_succ_of_le hla, h5.2 rfl⟩
      | true =>
        refine iteT ⟨_, cs5, ρ4, _, Z0, s5.self, re4.mono s5.gr, h5.1 rfl, fun H6 cs6 y dy s6 r6 h6 => ?_, fun _ _ _ _ _ _ z => z⟩
        refine ⟨_, cs6, ρ4, _, Z0, s6.self, re4.mono (s5.gr.trans s6.gr), h6, fun H7 cs7 z dz s7 r7 h7 => ?_, fun _ _ _ _ _ _ z => z⟩
        obtain ⟨kk, hk, h7⟩ := h7
        have s7' := (s7.from_ ((s2.gr.trans s3.gr).trans (s5.gr.trans s6.gr)))
        obtain ⟨s8, e8⟩ := s7'.turn (o' := .dK (putK vacc kk z)) hFD
        refine ⟨vacc, kk, kOf_rep hk r6, s7.fr D _ upd_same, ?_, cs7, putD acc kk dz, putK vacc kk z, s8, ?_, ?_, h7⟩
        · rw [ra.length]; exact Nat.lt_of_le_of_lt (Nat.le_trans hla hi) (Nat.lt_of_le_of_lt hlen (by decide))
        · rw [e8]
          exact (ra.mono (s3.gr.trans (s5.gr.trans (s6.gr.trans s7.gr)))).put kk r7
        · have := putD_len acc kk dz; omega
variable {kx vx tg iter : Expr} {ifs : List Expr} {scope : Scope} {own : List (Str × Nat)} {wi : WI} {g : TG} {gd : WG} {wt : WT} {wk wv : DL.WE}
theorem d_dcK (hc : X.calm = true) (hN : X.N.Nodup) (hi : DI X W tg iter wi) (ok : BlkOk X.N X.env.scope scope own) (gk : GOk X.K g gd (own.map (·.2)))
    (hg : ∀ (s : Shared) (H : Hp) (C : Addr) (cl : List (Str × Addr)) (fp : List Addr), PG (X.blk s H scope (compEnvC scope cl C X.env) fp) tg g)
    (ht : ∀ (s : Shared) (H : Hp) (C : Addr) (cl : List (Str × Addr)) (fp : List Addr), PTs (X.blk s H scope (compEnvC scope cl C X.env) fp) ifs (lT X.K W0 wt))
    (hk : ∀ (s : Shared) (H : Hp) (C : Addr) (cl : List (Str × Addr)) (fp : List Addr), DE (X.blk s H scope (compEnvC scope cl C X.env) fp) W0 kx wk)
    (he : ∀ (s : Shared) (H : Hp) (C : Addr) (cl : List (Str × Addr)) (fp : List Addr), DE (X.blk s H scope (compEnvC scope cl C X.env) fp) W0 vx wv) (hs : ∀ x, foldedSetIterable iter X.env x = pure x := by intro _; rfl) :
    DE X W (.DictComp kx vx [⟨tg, iter, ifs, 0⟩] scope pos) (wDcR wi gd wt wk wv (own.map (·.2)) RMK) := PE.imp (pe_dc hc hN hi ok hg ht hk he hs) fun _ _ _ h => dcK_ok gk h
end
/-! ### .. k a tuple -/
section
variable {X : Cx}
/-- how an entry is put into the new dict at N by a comprehension, k a tracked tuple -/
def rPutT (N : Addr) (y z : V) (H : Hp) (R : Hp → Prop) : Prop := ∃ kvs ks b, y = .ref b ∧ H b = some (.tup (ks.map kV)) ∧ H N = some (.dT kvs) ∧ kvs.length < sizeLine ∧ R (upd H N (.dT (putK kvs ks z)))
theorem x_putT {pn : List (Addr × Obj)} {σ : L2.St} {H : Hp} {s : Shared} {E : Value → Shared → Prop} {N : Addr} {y z : V} {u r : Value} {R : Hp → Prop} {Q : Unit → Shared → Prop} (hu : X.A.units + 64 < cLine) (I : Inv X pn σ H s) (ry : RelV y u) (rz : RelV z r) (q : rPutT N y z H R)
    (h : ∀ H' s', Inv X pn σ H' s' → R H' → Q () s') : wpAny (model X.prog X.w) X.A (dictSet N u r) Q E s := by
  obtain ⟨kvs, ks, b, rfl, eb, hN, hz, q⟩ := q
  cases (show u = Value.ref b from ry)
  obtain ⟨z1, hd, xs, rel, dd⟩ := dt_of I.hok hN
  have hx : xs.length ≤ sizeLine := by rw [← Paired.length rel]; exact z1
  have hl : (putK kvs ks z).length ≤ sizeLine := Nat.le_trans (length_putK kvs ks z) hz
  have room : (tupleKind (mixKind X.prog X.w)).room X.A := by show X.A.units < cLine; omega
  refine wpAny_dictSet_heap (hsz := hx) room (key_of I.hok eb) dd fun h' dd' hs => h _ _ ?_ q
  obtain ⟨od, es, ep, hq, h2, h3, h4, _, h5⟩ := dd'
  have kt : KT (upd H N (.dT (putK kvs ks z))) _ _ := (rel.put ks eb rz).keeps fun c ys ec => by rw [upd_ne (ne_of ec hN (fun z => nomatch z))]; exact ec
  exact d_write I (by rw [hN]; exact True.intro) hs ⟨od, hq⟩ ⟨hl, hd, _, kt, od, es, ep, hq, h2, h3, h4, h5⟩
/-- {k: v for target in iter if ..}: N the new dict, ob what stands there at first -/
def tDg (ob : HO) (st : Addr → V → V → Hp → (Hp → Prop) → Prop) (wi : TI) (g : TG) (tt : TT) (tk tv : TE) (vs : List Nat) : TE := fun σ H Q => wi σ H fun J H1 => ∀ N, H1 N = none → ∃ I : Nat → Nat → Hp → Prop, (∃ m, I 0 m (upd H1 N ob)) ∧ ∀ i m H2, I i m H2 →
  (J.stop i H2 ∧ Q (.ref N) H2) ∨ (J.go i H2 ∧ ∃ Nx : Hp → Prop, (∀ H', Nx H' → ∃ m', m' < m ∧ I (i + 1) m' H') ∧ ∀ x H3, J.yld i H2 x H3 → g x (L2.wipe σ vs) H3 fun σ4 H4 => L2.wipe σ4 vs = L2.wipe σ vs ∧ tt σ4 H4 fun b H5 =>
    if b = true then tk σ4 H5 fun y H6 => tv σ4 H6 fun z H7 => st N y z H7 Nx else Nx H5)
section
variable {kx vx tg iter : Expr} {ifs : List Expr} {scope : Scope} {own : List (Str × Nat)} {pos : Pos} {wi : TI} {g : TG} {tt : TT} {tk tv : TE}
abbrev AllB (X : Cx) (scope : Scope) (P : Cx → Prop) : Prop := ∀ (s : Shared) (H : Hp) (C : Addr) (cl : List (Str × Addr)) (fp : List Addr), P (X.blk s H scope (compEnvC scope cl C X.env) fp)
theorem pe_dg {ob : HO} {st : Addr → V → V → Hp → (Hp → Prop) → Prop} (hob : ∀ (H : Hp) (h : Heap), sysModules < h.objs.size → ObjOk X.prog X.w H (h.push { cls := .type "dict", data := .dict #[] }) h.objs.size ob)
    (hst : ∀ (Y : Cx), Y.prog = X.prog → Y.w = X.w → Y.A = X.A → ∀ (pn : List (Addr × Obj)) (σ : L2.St) (H : Hp) (s : Shared) (E : Value → Shared → Prop) (N : Addr) (y z : V) (u r : Value) (R : Hp → Prop) (Q : Unit → Shared → Prop), Inv Y pn σ H s → RelV y u → RelV z r → st N y z H R → (∀ H' s', Inv Y pn σ H' s' → R H' → Q () s') → wpAny (model Y.prog Y.w) Y.A (dictSet N u r) Q E s)
    (hcalm : X.calm = true) (hND : X.N.Nodup) (hit : PI X tg iter wi) (ok : BlkOk X.N X.env.scope scope own) (hg : AllB X scope fun Y => PG Y tg g) (ht : AllB X scope fun Y => PTs Y ifs tt) (hk : AllB X scope fun Y => PE Y kx tk) (hv : AllB X scope fun Y => PE Y vx tv)
    (hs : ∀ x, foldedSetIterable iter X.env x = pure x := by intro _; rfl) : PE X (.DictComp kx vx [⟨tg, iter, ifs, 0⟩] scope pos) (tDg ob st wi g tt tk tv (own.map (·.2))) := by
  refine ⟨fun pn s σ H Q I0 hq => ?_⟩
  rw [arm_eval_DictComp]
  have cl : ∀ y ∈ scope.names, y.2 = .free → ∃ c, X.env.cells.lookup y.1 = some c := fun y hy e => (ok.free y hy e).elim (fun k => I0.ok.has _ (.inl k)) fun k => I0.ok.has _ (.inr k)
  refine wpAny_comprehension_free rfl hs (closure_ok cl) ok.kind (fun y hy e => by rw [ok.uniq y hy, e]) (thn (hit.run pn s σ H _ I0 hq) fun _ s1 hx => thn hx fun _ sA hA => ?_)
  obtain ⟨it, fp, turn, J, HA, rfl, IA, tn, onTurn, free, body⟩ := hA
  refine wpAny_newObj_type (newEnv_comp ?_)
  obtain ⟨N, eN⟩ : ∃ N, N = sA.heap.objs.size := ⟨_, rfl⟩
  rw [← eN]
  have nN : HA N = none := IA.hok.fresh (Nat.le_of_eq eN.symm)
  obtain ⟨Iv, ⟨m0, iv0⟩, step⟩ := body N nN
  obtain ⟨sB, eB⟩ : ∃ sB : Shared, sB = { sA with heap := sA.heap.push { cls := .type "dict", data := .dict #[] } } := ⟨_, rfl⟩
  obtain ⟨HB, eHB⟩ : ∃ HB, HB = upd HA N ob := ⟨_, rfl⟩
  have heapB : sB.heap = sA.heap.push { cls := .type "dict", data := .dict #[] } := by rw [eB]
  have IB : Inv X pn σ HB sB := by
    rw [eB, eHB]
    exact IA.laid (t' := sA.toks) (fun _ _ e => Heap.get?_push_of_some _ e) (Nat.le_of_eq eN.symm) (by rw [eN]; exact hob _ _ IA.big)
  have below : ∀ b ∈ fp, b < sA.heap.objs.size := fun b hb => let ⟨_, e, _⟩ := tn.obj _ _ onTurn b hb; Heap.lt_size e
  have fpB : ∀ b ∈ fp, FpOk X pn HB b ∧ b < sB.heap.objs.size := fun b hb => by
    refine ⟨⟨?_, (free b hb).2⟩, by rw [heapB, Heap.size_push]; exact Nat.lt_succ_of_lt (below b hb)⟩
    rw [eHB, upd_ne (by rw [eN]; exact Nat.ne_of_lt (below b hb))]
    exact (free b hb).1
  have onB : turn 0 sB.heap := tn.keep _ _ _ onTurn fun b _ o e => by rw [heapB]; exact Heap.get?_push_of_some _ e
  have IC := block_start IB ok hND fpB
  have kG := hg sB HB sB.heap.objs.size (cellsFrom (sB.heap.objs.size + 1) scope.names (cloFrom X.env.cells scope.names [])) fp
  have kT := ht sB HB sB.heap.objs.size (cellsFrom (sB.heap.objs.size + 1) scope.names (cloFrom X.env.cells scope.names [])) fp
  have kK := hk sB HB sB.heap.objs.size (cellsFrom (sB.heap.objs.size + 1) scope.names (cloFrom X.env.cells scope.names [])) fp
  have kV' := hv sB HB sB.heap.objs.size (cellsFrom (sB.heap.objs.size + 1) scope.names (cloFrom X.env.cells scope.names [])) fp
  rw [← eHB] at iv0
  have bare : ∀ b ∈ fp, HB b = none := fun b hb => (fpB b hb).1.1
  rw [← eB]
  show codeAny _ X.A (.compStart _ 0 (.ref it) (.ref N) (compEnvC scope (cellsFrom (sB.heap.objs.size + 1) scope.names (cloFrom X.env.cells scope.names [])) sB.heap.objs.size X.env)) (compPost (model X.prog X.w) X.A X.xe none (EP X pn σ Q) (.ref N) sB.heap.objs.size) ({ sB with heap := pushCells (sB.heap.push { cls := .type "dict", data := .dict #[] }) scope.names } : Shared)
  generalize hen : compEnvC scope (cellsFrom (sB.heap.objs.size + 1) scope.names (cloFrom X.env.cells scope.names [])) sB.heap.objs.size X.env = en at IC kG kT kK kV' ⊢
  have eL : en.locals = sB.heap.objs.size := by subst hen; rfl
  generalize hsC : ({ sB with heap := pushCells (sB.heap.push { cls := .type "dict", data := .dict #[] }) scope.names } : Shared) = sC at IC ⊢
  have onC : turn 0 sC.heap := tn.keep _ _ _ onB fun b _ o e => by rw [← hsC]; exact pushCells_keeps _ _ _ _ (Heap.get?_push_of_some _ e)
  have fpOk : ∀ {σ' : L2.St} {H' : Hp} {s' : Shared}, Inv (X.blk sB HB scope en fp) [] σ' H' s' → (∀ b ∈ fp, H' b = none) → ∀ b ∈ fp, FpOk (X.blk sB HB scope en fp) [] H' b := fun {_ _ _} I' hn b hb =>
    ⟨hn b hb, (I'.ok.exf b hb).1, I'.ok.exfs b hb, .inl hb, fun x c e => (I'.ok.exf b hb).2 x c e, fun p hp => absurd (show p ∈ ([] : List (Addr × Obj)) ++ [] from hp) (by simp)⟩
  have loop : codeAny (model X.prog X.w) X.A (.compLoop (.DictComp kx vx [⟨tg, iter, ifs, 0⟩] scope pos) 0 (.ref it) (.ref N) en) (compPost (model X.prog X.w) X.A X.xe none (EP X pn σ Q) (.ref N) sB.heap.objs.size) sC := by
    refine compLoop_anyD (fun n s' => ∃ i H', Inv (X.blk sB HB scope en fp) [] (L2.wipe σ (own.map (·.2))) H' s' ∧ turn i s'.heap ∧ (∀ b ∈ fp, H' b = none) ∧ Iv i n H') ?_ m0 ⟨0, HB, IC, onC, bare, iv0⟩
    rintro n sD ⟨i, HD, ID, onD, bareD, ivD⟩
    rcases step i n HD ivD with ⟨halt, q⟩ | ⟨go, Nx, nxt, more⟩
    · refine thnF (tn.done (X.blk sB HB scope en fp) rfl rfl rfl hcalm i [] sD _ HD (fun _ _ => False) ID (fpOk ID bareD) onD halt) fun r sE ⟨er, IE⟩ => ?_
      subst er
      have IF : Inv X pn σ HD sE := IB.call' (ch := fp) IE.os IE.base IE.hok IE.bare fun b hb => let f := (fpB b hb).1; ⟨f.2.2.2.1, f.2.1, f.2.2.2.2.1, f.2.2.2.2.2⟩
      have nL : HD sB.heap.objs.size = none := by rw [← eL]; exact IE.free
      obtain ⟨ml, hl, _⟩ := IE.loc
      refine ⟨ml, by rw [← eL]; exact hl, fun h'' sb => ?_⟩
      obtain ⟨f0, f1, f2, f3, f4, f5⟩ := IB.fpOk (Nat.le_refl _) nL
      exact ⟨.ref N, HD, IF.turned (t' := sE.toks) (fun b o hb e => (sb.2 b hb).trans e) f0 f1 f3 f4 f5, rfl, q⟩
    · refine thnF (tn.item (X.blk sB HB scope en fp) rfl rfl rfl hcalm i [] sD _ HD (fun _ _ => False) ID (fpOk ID bareD) onD go) fun r sE ⟨uE, er, hE⟩ => ?_
      subst er
      refine thnF hE fun _ sF ⟨x, HF, IF, rF, yF, onF, bareF⟩ => ?_
      refine thnF (kG.run _ sF _ HF x uE _ (IF.pinned (fpOk IF bareF) (tn.obj _ _ onF)) rF (more x HF yF)) fun _ sG ⟨σG, HG, IG, wG, qG⟩ => ?_
      refine thnF (kT.run _ sG σG HG _ IG qG) fun b sH ⟨HH, IH, qH⟩ => ?_
      have fin : ∀ {s' : Shared} {H' : Hp}, Inv (X.blk sB HB scope en fp) ([] ++ pinsAt fp sF.heap) σG H' s' → Nx H' → ∃ m, m < n ∧ ∃ i H', Inv (X.blk sB HB scope en fp) [] (L2.wipe σ (own.map (·.2))) H' s' ∧ turn i s'.heap ∧ (∀ b ∈ fp, H' b = none) ∧ Iv i m H' := fun {s' H'} I' nx => by
        obtain ⟨m', hm, iv'⟩ := nxt H' nx
        have kept : ∀ b ∈ fp, ∀ o, sF.heap.get? b = some o → s'.heap.get? b = some o ∧ H' b = none := fun b hb o e =>
          let z := I'.pin (b, o) (List.mem_append_right _ (List.mem_append_right _ (mem_pinsAt hb e))); ⟨z.1, z.2.1⟩
        refine ⟨m', hm, i + 1, H', (I'.unpinned (pins := [])).weak (by rw [← wG, wipe_length]) (fun j v e => ?_), tn.keep _ _ _ onF fun b hb o e => (kept b hb o e).1, fun b hb => let ⟨o, e, _⟩ := tn.obj _ _ onF b hb; (kept b hb o e).2, iv'⟩
        rw [← wG] at e
        exact (wipe_some e).1
      cases b with
      | false =>
        rw [if_neg (by decide)] at qH ⊢
        exact fin IH qH
      | true =>
        rw [if_pos rfl] at qH ⊢
        refine thnF (kK.run _ sH σG HH _ IH qH) fun uk sI ⟨yk, HI, II, rI', qI⟩ => ?_
        refine thnF (kV'.run _ sI σG HI _ II qI) fun uv sJ ⟨yv, HJ, IJ, rJ, qJ⟩ => ?_
        exact hst (X.blk sB HB scope en fp) rfl rfl rfl _ _ _ _ _ N yk yv uk uv Nx _ IJ rI' rJ qJ fun H' s' I' nx => fin I' nx
  exact codeAny_compStart_dict loop (tn.self X.A 0 _ _ _ onC loop)
end
end
section
variable {X : Cx} {W : WX} {K : PySem.W.Frag} {σ : L2.St} {H : Hp} {pos : Pos}
abbrev RMT : DP → List (List Key × D) → Cs → Prop := fun P ds cs2 => ∀ p, p ∉ adr cs2 → P (.opq (.ref p)) ((p, .dct ds) :: cs2)
def dtW (g : WG) (wt : WT) (w : WA) (wv : DL.WE) : List D → DL.Env → Cs → List (List Key × D) → (List (List Key × D) → Cs → Prop) → Prop
  | [], _, cs, acc, P => P acc cs
  | d :: r, ρ, cs, acc, P => g d ρ fun ρ1 => wt ρ1 cs (fun k cs1 => (k = true → w ρ1 cs1 (fun ys cs2 => wv ρ1 cs2 (fun z cs3 => ∃ ks, ksOf ys = some ks ∧ dtW g wt w wv r ρ cs3 (putD acc ks z) P) Z0) Z0) ∧ (k = false → dtW g wt w wv r ρ cs1 acc P)) Z0
def wDtR (wi : WI) (g : WG) (wt : WT) (w : WA) (wv : DL.WE) (vs : List Nat) : DL.WE := fun ρ cs P Z => wi ρ cs (fun xs cs1 => xs.length ≤ 100000 ∧ dtW g wt w wv xs (wipeD ρ vs) cs1 [] (RMT P)) Z
theorem dcT_ok {wi : WI} {g : TG} {gd : WG} {wt : WT} {w : WA} {n : Nat} {wv : DL.WE} {vs : List Nat} (hn : n ≤ 1000) (gk : GOk K g gd vs) {Q : VK} : lE K W (wDtR wi gd wt w wv vs) σ H Q → tDg (.dT []) rPutT (lI K W wi) g (lT K W0 wt) (tTup (lA K W0 n w)) (lE K W0 wv) vs σ H Q := by
  rintro ⟨F, cs, ρ, P, Z, s, re, hw, pe, px⟩
  refine ⟨F, cs, ρ, _, Z, s, re, hw, fun H1 cs1 J xs s1 yi h1 => ?_, px⟩
  intro D hD
  obtain ⟨hlen, h1⟩ := h1
  have hFD : F D = none := s1.fr.back hD
  have reW : RepE K (pur F cs1 H1) (L2.wipe σ vs) (wipeD ρ vs) := (re.mono s1.gr).wipe vs
  refine ⟨fun i m H' => i ≤ xs.length ∧ m = xs.length - i ∧ ∃ cs' acc vacc, Sta K (upd F D (.dT vacc)) (pur F cs1 H1) cs' H' ∧ RG K (pur (upd F D (.dT vacc)) cs' H') vacc acc ∧ acc.length ≤ i ∧ dtW gd wt w wv (xs.drop i) (wipeD ρ vs) cs' acc (RMT P),
    ⟨xs.length, Nat.zero_le _, rfl, cs1, [], [], s1.aside hD, .nil, Nat.le_refl _, h1⟩, ?_⟩
  rintro i m H2 ⟨hi, rfl, cs2, acc, vacc, s2, ra, hla, h2⟩
  cases e : xs.drop i with
  | nil =>
    have hl : xs.length ≤ i := by
      have z := congrArg List.length e
      rw [List.length_drop] at z
      have z' : xs.length - i = 0 := z
      omega
    have hie : i = xs.length := by omega
    rw [e] at h2
    refine .inl ⟨by rw [hie]; exact yi.stop _ cs2 H2 s2, ?_⟩
    obtain ⟨s3, hn⟩ := (s2.from_ s1.gr).backM (m := .dct acc) hFD ra.rt
    exact pe H2 _ _ _ s3 (.opq _) (h2 D hn)
  | cons d r =>
    obtain ⟨e1, e2⟩ := drop_cons e
    have hlt : i < xs.length := (List.getElem?_eq_some_iff.mp e1).1
    rw [e] at h2
    refine .inr ⟨yi.go i d e1 _ cs2 H2 s2, fun H' => ∃ cs' acc vacc, Sta K (upd F D (.dT vacc)) (pur F cs1 H1) cs' H' ∧ RG K (pur (upd F D (.dT vacc)) cs' H') vacc acc ∧ acc.length ≤ i + 1 ∧ dtW gd wt w wv r (wipeD ρ vs) cs' acc (RMT P), ?_, ?_⟩
    · rintro H' ⟨cs', acc', vacc', s', ra', hl', h'⟩
      exact ⟨xs.length - (i + 1), by omega, by omega, rfl, cs', acc', vacc', s', ra', hl', by rw [e2]; exact h'⟩
    · intro x H3 hy
      obtain ⟨s3, r3⟩ := yi.yld i d e1 _ cs2 H2 x H3 s2 hy
      refine gk _ cs2 H3 _ (wipeD ρ vs) x d _ _ s3.self (reW.mono (s2.gr.trans s3.gr)) r3 wipe_wipe h2 fun σ4 ρ4 hw4 re4 h4 => ⟨hw4.trans rfl, ?_⟩
      refine ⟨_, cs2, ρ4, _, Z0, s3.self, re4, h4, fun H5 cs5 k s5 h5 => ?_, fun _ _ _ _ _ _ z => z⟩
      cases k with
      | false => exact iteF ⟨cs5, acc, vacc, s5.from_ (s2.gr.trans s3.gr), ra.mono (s3.gr.trans s5.gr), Nat.le_succ_of_le hla, h5.2 rfl⟩
      | true =>
        refine iteT ⟨_, cs5, ρ4, _, Z0, s5.self, re4.mono s5.gr, h5.1 rfl, fun H6 cs6 ys dys s6 r6 l6 h6 => ⟨by rw [r6.length, l6]; exact small_es hn, fun t ht => ?_⟩, fun _ _ _ _ _ _ z => z⟩
        obtain ⟨s6', et⟩ := s6.new (o := .tup ys) ht
        refine ⟨_, cs6, ρ4, _, Z0, s6'.self, re4.mono (s5.gr.trans (s6.gr.trans s6'.gr)), h6, fun H7 cs7 z dz s7 r7 h7 => ?_, fun _ _ _ _ _ _ z => z⟩
        obtain ⟨kk, hk, h7⟩ := h7
        have s7' := (s7.from_ ((s2.gr.trans s3.gr).trans (s5.gr.trans (s6.gr.trans s6'.gr))))
        obtain ⟨s8, e8⟩ := s7'.turn (o' := .dT (putK vacc kk z)) hFD
        refine ⟨vacc, kk, t, rfl, ?_, s7.fr D _ upd_same, ?_, cs7, putD acc kk dz, putK vacc kk z, s8, ?_, ?_, h7⟩
        · rw [← ksOf_rep hk r6]; exact pur_le _ _ (s7.gr _ _ et)
        · rw [ra.length]; exact Nat.lt_of_le_of_lt (Nat.le_trans hla hi) (Nat.lt_of_le_of_lt hlen (by decide))
        · rw [e8]
          exact (ra.mono (s3.gr.trans (s5.gr.trans (s6.gr.trans (s6'.gr.trans s7.gr))))).put kk r7
        · have := putD_len acc kk dz; omega
/-- {x: v for x in d if test}, d a dict of tuples that is data -/
def dkW (i : Nat) (wt : WT) (wv : DL.WE) : List (List Key) → DL.Env → Cs → List (List Key × D) → (List (List Key × D) → Cs → Prop) → Prop
  | [], _, cs, acc, P => P acc cs
  | k :: r, ρ, cs, acc, P => wt (ρ.set i (some (.tup (k.map kD)))) cs (fun b cs1 => (b = true → wv (ρ.set i (some (.tup (k.map kD)))) cs1 (fun z cs2 => dkW i wt wv r ρ cs2 (putD acc k z) P) Z0) ∧ (b = false → dkW i wt wv r ρ cs1 acc P)) Z0
def wDkR (i : Nat) (we : DL.WE) (wt : WT) (wv : DL.WE) (vs : List Nat) : DL.WE := fun ρ cs P Z => we ρ cs (fun d cs1 => match d with
  | .dct kvs => kvs.length ≤ 100000 ∧ dkW i wt wv (kvs.map (·.1)) (wipeD ρ vs) cs1 [] (RMT P)
  | _ => False) Z
theorem dcK2_ok {i0 : Nat} {we : DL.WE} {wt : WT} {wv : DL.WE} {vs : List Nat} (h0 : i0 ∈ vs) {Q : VK} : lE K W (wDkR i0 we wt wv vs) σ H Q → i0 < σ.length → tDg (.dT []) rPutT (iKeys (lE K W we)) (gName i0) (lT K W0 wt) (tVar i0) (lE K W0 wv) vs σ H Q := by
  rintro ⟨F, cs, ρ, P, Z, s, re, hw, pe, px⟩ hlt0
  refine ⟨F, cs, ρ, _, Z, s, re, hw, fun H1 cs1 v dv s1 rv h1 => ?_, px⟩
  cases dv <;> try exact h1.elim
  rename_i kvs
  cases rv with
  | @dct a o vvs _ ea rt =>
  refine ⟨a, o, rfl, .inr ⟨vvs, pur_le _ _ ea, ?_⟩⟩
  intro D hD
  obtain ⟨hlen, h1⟩ := h1
  have hFD : F D = none := s1.fr.back hD
  have reW : RepE K (pur F cs1 H1) (L2.wipe σ vs) (wipeD ρ vs) := (re.mono s1.gr).wipe vs
  obtain ⟨kl, hkl⟩ : ∃ kl : List (List Key), kl = kvs.map (·.1) := ⟨_, rfl⟩
  rw [← hkl] at h1
  have hkv : ∀ (j : Nat), kl[j]? = (vvs[j]?).map (·.1) := fun j => by rw [hkl, ← rt.rg.keys, List.getElem?_map]
  have hkn : kl.length = vvs.length := by rw [hkl, ← rt.rg.keys, List.length_map]
  have hll : vvs.length = kvs.length := rt.rg.length
  refine ⟨fun i m H' => i ≤ vvs.length ∧ m = vvs.length - i ∧ ∃ cs' acc vacc, Sta K (upd F D (.dT vacc)) (pur F cs1 H1) cs' H' ∧ RG K (pur (upd F D (.dT vacc)) cs' H') vacc acc ∧ acc.length ≤ i ∧ dkW i0 wt wv (kl.drop i) (wipeD ρ vs) cs' acc (RMT P),
    ⟨vvs.length, Nat.zero_le _, rfl, cs1, [], [], s1.aside hD, .nil, Nat.le_refl _, h1⟩, ?_⟩
  rintro i m H2 ⟨hi, rfl, cs2, acc, vacc, s2, ra, hla, h2⟩
  cases e : kl.drop i with
  | nil =>
    have hl : vvs.length ≤ i := by
      have z := congrArg List.length e
      rw [List.length_drop, hkn] at z
      have z' : vvs.length - i = 0 := z
      omega
    rw [e] at h2
    refine .inl ⟨⟨pur_le _ _ (s2.gr _ _ ea), hl⟩, ?_⟩
    obtain ⟨s3, hn⟩ := (s2.from_ s1.gr).backM (m := .dct acc) hFD ra.rt
    exact pe H2 _ _ _ s3 (.opq _) (h2 D hn)
  | cons d r =>
    obtain ⟨e1, e2⟩ := drop_cons e
    have hlt : i < vvs.length := by
      have := (List.getElem?_eq_some_iff.mp e1).1
      rwa [hkn] at this
    rw [e] at h2
    refine .inr ⟨⟨pur_le _ _ (s2.gr _ _ ea), hlt⟩, fun H' => ∃ cs' acc vacc, Sta K (upd F D (.dT vacc)) (pur F cs1 H1) cs' H' ∧ RG K (pur (upd F D (.dT vacc)) cs' H') vacc acc ∧ acc.length ≤ i + 1 ∧ dkW i0 wt wv r (wipeD ρ vs) cs' acc (RMT P), ?_, ?_⟩
    · rintro H' ⟨cs', acc', vacc', s', ra', hl', h'⟩
      exact ⟨vvs.length - (i + 1), by omega, by omega, rfl, cs', acc', vacc', s', ra', hl', by rw [e2]; exact h'⟩
    · rintro x H3 ⟨rfl, k, v, q, ek, rfl, eq⟩
      rw [hkv, ek] at e1
      cases e1
      have pq := tup_pur s2 eq
      have re3 := (reW.mono s2.gr).set (Rep.tup (SqT.of pq) (ksD_rep k)) i0
      refine ⟨wipe_set h0 |>.trans wipe_wipe, ?_⟩
      refine ⟨_, cs2, _, _, Z0, s2.self, re3, h2, fun H5 cs5 b s5 h5 => ?_, fun _ _ _ _ _ _ z => z⟩
      cases b with
      | false => exact iteF ⟨cs5, acc, vacc, s5.from_ s2.gr, ra.mono s5.gr, Nat.le_succ_of_le hla, h5.2 rfl⟩
      | true =>
        refine iteT ⟨.ref q, ?_, ?_⟩
        · rw [List.getElem?_set_self (by rw [wipe_length]; exact hlt0)]
        refine ⟨_, cs5, _, _, Z0, s5.self, re3.mono s5.gr, h5.1 rfl, fun H7 cs7 z dz s7 r7 h7 => ?_, fun _ _ _ _ _ _ z => z⟩
        have s7' := s7.from_ (s2.gr.trans s5.gr)
        obtain ⟨s8, e8⟩ := s7'.turn (o' := .dT (putK vacc k z)) hFD
        refine ⟨vacc, k, q, rfl, pur_le _ _ (s7.gr _ _ (s5.gr _ _ pq)), s7.fr D _ upd_same, ?_, cs7, putD acc k dz, putK vacc k z, s8, ?_, ?_, h7⟩
        · rw [ra.length]; exact Nat.lt_of_le_of_lt (Nat.le_trans hla hi) (Nat.lt_of_le_of_lt (by rw [hll]; exact hlen) (by decide))
        · rw [e8]
          exact (ra.mono (s5.gr.trans s7.gr)).put k r7
        · have := putD_len acc k dz; omega
variable {kx vx tg iter : Expr} {ifs : List Expr} {scope : Scope} {own : List (Str × Nat)} {wi : WI} {g : TG} {gd : WG} {wt : WT} {w : WA} {wv we : DL.WE} {es : List Expr} {kt : Nat} {kp px : Pos} {x : Str} {i0 : Nat}
theorem put_ok (hu : X.A.units + 64 < cLine) : ∀ (Y : Cx), Y.prog = X.prog → Y.w = X.w → Y.A = X.A → ∀ (pn : List (Addr × Obj)) (σ : L2.St) (H : Hp) (s : Shared) (E : Value → Shared → Prop) (N : Addr) (y z : V) (u r : Value) (R : Hp → Prop) (Q : Unit → Shared → Prop), Inv Y pn σ H s → RelV y u → RelV z r → rPutT N y z H R → (∀ H' s', Inv Y pn σ H' s' → R H' → Q () s') → wpAny (model Y.prog Y.w) Y.A (dictSet N u r) Q E s :=
  fun Y _ _ h3 pn σ H s E N y z u r R Q I ry rz q h => x_putT (by rw [h3]; exact hu) I ry rz q h
theorem d_dcT (hu : X.A.units + 64 < cLine) (hc : X.calm = true) (hN : X.N.Nodup) (hi : DI X W tg iter wi) (ok : BlkOk X.N X.env.scope scope own) (gk : GOk X.K g gd (own.map (·.2)))
    (hg : ∀ (s : Shared) (H : Hp) (C : Addr) (cl : List (Str × Addr)) (fp : List Addr), PG (X.blk s H scope (compEnvC scope cl C X.env) fp) tg g)
    (ht : ∀ (s : Shared) (H : Hp) (C : Addr) (cl : List (Str × Addr)) (fp : List Addr), PTs (X.blk s H scope (compEnvC scope cl C X.env) fp) ifs (lT X.K W0 wt))
    (hk : ∀ (s : Shared) (H : Hp) (C : Addr) (cl : List (Str × Addr)) (fp : List Addr), DA (X.blk s H scope (compEnvC scope cl C X.env) fp) W0 es w)
    (he : ∀ (s : Shared) (H : Hp) (C : Addr) (cl : List (Str × Addr)) (fp : List Addr), DE (X.blk s H scope (compEnvC scope cl C X.env) fp) W0 vx wv) (hn : es.length ≤ 1000 := by decide) (hs : ∀ x, foldedSetIterable iter X.env x = pure x := by intro _; rfl) :
    DE X W (.DictComp (.Tuple es kt kp) vx [⟨tg, iter, ifs, 0⟩] scope pos) (wDtR wi gd wt w wv (own.map (·.2))) :=
  PE.imp (pe_dg (fun H h hb => dt_empty h hb) (put_ok hu) hc hN hi ok hg ht (fun s H C cl fp => pe_tup (hk s H C cl fp)) he hs) fun _ _ _ h => dcT_ok hn gk h
theorem d_dcKT (hu : X.A.units + 64 < cLine) (hc : X.calm = true) (hN : X.N.Nodup) (hx : X.N[i0]? = some x) (hi : DE X W iter we) (ok : BlkOk X.N X.env.scope scope own) (h0 : i0 ∈ own.map (·.2))
    (hg : ∀ (s : Shared) (H : Hp) (C : Addr) (cl : List (Str × Addr)) (fp : List Addr), PG (X.blk s H scope (compEnvC scope cl C X.env) fp) tg (gName i0))
    (ht : ∀ (s : Shared) (H : Hp) (C : Addr) (cl : List (Str × Addr)) (fp : List Addr), PTs (X.blk s H scope (compEnvC scope cl C X.env) fp) ifs (lT X.K W0 wt))
    (hk : ∀ (s : Shared) (H : Hp) (C : Addr) (cl : List (Str × Addr)) (fp : List Addr), PE (X.blk s H scope (compEnvC scope cl C X.env) fp) kx (tVar i0))
    (he : ∀ (s : Shared) (H : Hp) (C : Addr) (cl : List (Str × Addr)) (fp : List Addr), DE (X.blk s H scope (compEnvC scope cl C X.env) fp) W0 vx wv) (hs : ∀ x, foldedSetIterable iter X.env x = pure x := by intro _; rfl) :
    DE X W (.DictComp kx vx [⟨tg, iter, ifs, 0⟩] scope pos) (wDkR i0 we wt wv (own.map (·.2))) :=
  ⟨fun pins s σ H Q I q => (pe_dg (fun H h hb => dt_empty h hb) (put_ok hu) hc hN (pi_keys hi) ok hg ht hk he hs).run pins s σ H Q I (dcK2_ok h0 q (by rw [I.len]; exact (List.getElem?_eq_some_iff.mp hx).1))⟩
end
/-! ### going through -/
section
variable {ρ : DL.Env} {cs : Cs} {P : DP} {Z : XZ} {we wk wv : DL.WE} {wt : WT} {w : WA} {g : WG}
theorem r_keysI {R : List D → Cs → Prop} (h : we ρ cs (fun d cs1 => match d with
  | .dic kvs => R (kvs.map fun p => kD p.1) cs1
  | .dct kvs => R (kvs.map fun p => D.tup (p.1.map kD)) cs1
  | _ => False) Z) : iKeysD we ρ cs R Z := h
theorem r_dcK {wi : WI} {vs : List Nat} (h : wi ρ cs (fun xs cs1 => xs.length ≤ 100000 ∧ dcW g wt wk wv xs (wipeD ρ vs) cs1 [] (fun ds cs2 => ∀ p, p ∉ adr cs2 → P (.opq (.ref p)) ((p, .dic ds) :: cs2))) Z) : wDcR wi g wt wk wv vs RMK ρ cs P Z := h
theorem r_dcT {wi : WI} {vs : List Nat} (h : wi ρ cs (fun xs cs1 => xs.length ≤ 100000 ∧ dtW g wt w wv xs (wipeD ρ vs) cs1 [] (fun ds cs2 => ∀ p, p ∉ adr cs2 → P (.opq (.ref p)) ((p, .dct ds) :: cs2))) Z) : wDtR wi g wt w wv vs ρ cs P Z := h
theorem r_dcKT {i : Nat} {vs : List Nat} (h : we ρ cs (fun d cs1 => match d with
  | .dct kvs => kvs.length ≤ 100000 ∧ dkW i wt wv (kvs.map (·.1)) (wipeD ρ vs) cs1 [] (fun ds cs2 => ∀ p, p ∉ adr cs2 → P (.opq (.ref p)) ((p, .dct ds) :: cs2))
  | _ => False) Z) : wDkR i we wt wv vs ρ cs P Z := h
theorem lk_app_none {κ : Type} [DecidableEq κ] {acc : List (κ × D)} {k k' : κ} {v : D} (h : lk acc k = none) (hn : k ≠ k') : lk (acc ++ [(k', v)]) k = none := by
  rw [look_app, h, if_neg hn]; rfl
/-- tuple keys: each item a of l (its datum g0 a) gives the entry (kf a, vf a), where nothing changes -/
theorem r_dtmA {α : Type} {R : List (List Key × D) → Cs → Prop} {g0 : α → D} (kf : α → List Key) (vf : α → D) : ∀ (l : List α) (acc : List (List Key × D)), (∀ a ∈ l, lk acc (kf a) = none) → (l.map kf).Nodup →
    (∀ a (N : List Key → D → Cs → Prop) (N' : Cs → Prop), a ∈ l → N (kf a) (vf a) cs → g (g0 a) ρ fun ρ1 => wt ρ1 cs (fun b cs1 => (b = true → w ρ1 cs1 (fun ys cs2 => wv ρ1 cs2 (fun z cs3 => ∃ ks, ksOf ys = some ks ∧ N ks z cs3) Z0) Z0) ∧ (b = false → N' cs1)) Z0) →
    R (acc ++ l.map fun a => (kf a, vf a)) cs → dtW g wt w wv (l.map g0) ρ cs acc R
  | [], acc, _, _, _, hd => by rw [List.map_nil, List.append_nil] at hd; exact hd
  | a :: l, acc, hn, nd, hs, hd => by
    rw [List.map_cons] at nd
    obtain ⟨n1, n2⟩ := List.nodup_cons.mp nd
    refine hs a (fun ks z cs3 => dtW g wt w wv (l.map g0) ρ cs3 (putD acc ks z) R) (fun cs1 => dtW g wt w wv (l.map g0) ρ cs1 acc R) (List.mem_cons_self ..) ?_
    rw [putD_new _ (hn a (List.mem_cons_self ..))]
    refine r_dtmA kf vf l _ (fun b hb => lk_app_none (hn b (List.mem_cons_of_mem _ hb)) fun z => n1 (by rw [← z]; exact List.mem_map.mpr ⟨b, hb, rfl⟩)) n2 (fun b N N' hb => hs b N N' (List.mem_cons_of_mem _ hb)) ?_
    rw [List.append_assoc]; exact hd
theorem r_dtm {α : Type} {R : List (List Key × D) → Cs → Prop} {xs : List D} {l : List α} {g0 : α → D} (e : xs = l.map g0) (kf : α → List Key) (vf : α → D) (hnd : (l.map kf).Nodup)
    (hs : ∀ a (N : List Key → D → Cs → Prop) (N' : Cs → Prop), a ∈ l → N (kf a) (vf a) cs → g (g0 a) ρ fun ρ1 => wt ρ1 cs (fun b cs1 => (b = true → w ρ1 cs1 (fun ys cs2 => wv ρ1 cs2 (fun z cs3 => ∃ ks, ksOf ys = some ks ∧ N ks z cs3) Z0) Z0) ∧ (b = false → N' cs1)) Z0)
    (hd : R (l.map fun a => (kf a, vf a)) cs) : dtW g wt w wv xs ρ cs [] R := by
  subst e; exact r_dtmA kf vf l [] (fun _ _ => rfl) hnd hs hd
theorem r_ks2 {i j : Int} {z : D} {N : List Key → D → Cs → Prop} (h : N [.inl i, .inl j] z cs) : ∃ ks, ksOf [.int i, .int j] = some ks ∧ N ks z cs := ⟨_, rfl, h⟩
/-- .. of a dict's own keys -/
theorem r_dkfA {i : Nat} {R : List (List Key × D) → Cs → Prop} (p : List Key → Bool) (vf : List Key → D) : ∀ (ks : List (List Key)) (acc : List (List Key × D)), (∀ k ∈ ks, lk acc k = none) → ks.Nodup →
    (∀ k (N : DP) (N' : Cs → Prop), k ∈ ks → (p k = true → N (vf k) cs) → (p k = false → N' cs) → wt (ρ.set i (some (.tup (k.map kD)))) cs (fun b cs1 => (b = true → wv (ρ.set i (some (.tup (k.map kD)))) cs1 N Z0) ∧ (b = false → N' cs1)) Z0) →
    R (acc ++ (ks.filter p).map fun k => (k, vf k)) cs → dkW i wt wv ks ρ cs acc R
  | [], acc, _, _, _, hd => by rw [List.filter_nil, List.map_nil, List.append_nil] at hd; exact hd
  | k :: l, acc, hn, nd, hs, hd => by
    obtain ⟨n1, n2⟩ := List.nodup_cons.mp nd
    refine hs k (fun z cs2 => dkW i wt wv l ρ cs2 (putD acc k z) R) (fun cs1 => dkW i wt wv l ρ cs1 acc R) (List.mem_cons_self ..) (fun hp => ?_) fun hp => ?_
    · rw [putD_new _ (hn k (List.mem_cons_self ..))]
      refine r_dkfA p vf l _ (fun b hb => lk_app_none (hn b (List.mem_cons_of_mem _ hb)) fun z => n1 (by rw [← z]; exact hb)) n2 (fun b N N' hb => hs b N N' (List.mem_cons_of_mem _ hb)) ?_
      rw [List.filter_cons_of_pos hp] at hd
      rw [List.append_assoc]; exact hd
    · refine r_dkfA p vf l _ (fun b hb => hn b (List.mem_cons_of_mem _ hb)) n2 (fun b N N' hb => hs b N N' (List.mem_cons_of_mem _ hb)) ?_
      rw [List.filter_cons_of_neg (by rw [hp]; decide)] at hd
      exact hd
theorem r_dkf {i : Nat} {R : List (List Key × D) → Cs → Prop} {ks : List (List Key)} (p : List Key → Bool) (vf : List Key → D) (nd : ks.Nodup)
    (hs : ∀ k (N : DP) (N' : Cs → Prop), k ∈ ks → (p k = true → N (vf k) cs) → (p k = false → N' cs) → wt (ρ.set i (some (.tup (k.map kD)))) cs (fun b cs1 => (b = true → wv (ρ.set i (some (.tup (k.map kD)))) cs1 N Z0) ∧ (b = false → N' cs1)) Z0)
    (hd : R ((ks.filter p).map fun k => (k, vf k)) cs) : dkW i wt wv ks ρ cs [] R := r_dkfA p vf ks [] (fun _ _ => rfl) nd hs hd
/-- keys that are ints or texts -/
theorem r_dcmA {α : Type} {R : List (Key × D) → Cs → Prop} {g0 : α → D} (kf : α → Key) (vf : α → D) : ∀ (l : List α) (acc : List (Key × D)), (∀ a ∈ l, lk acc (kf a) = none) → (l.map kf).Nodup →
    (∀ a (N : Key → D → Cs → Prop) (N' : Cs → Prop), a ∈ l → N (kf a) (vf a) cs → g (g0 a) ρ fun ρ1 => wt ρ1 cs (fun b cs1 => (b = true → wk ρ1 cs1 (fun y cs2 => wv ρ1 cs2 (fun z cs3 => ∃ kk, kOf y = some kk ∧ N kk z cs3) Z0) Z0) ∧ (b = false → N' cs1)) Z0) →
    R (acc ++ l.map fun a => (kf a, vf a)) cs → dcW g wt wk wv (l.map g0) ρ cs acc R
  | [], acc, _, _, _, hd => by rw [List.map_nil, List.append_nil] at hd; exact hd
  | a :: l, acc, hn, nd, hs, hd => by
    rw [List.map_cons] at nd
    obtain ⟨n1, n2⟩ := List.nodup_cons.mp nd
    refine hs a (fun ks z cs3 => dcW g wt wk wv (l.map g0) ρ cs3 (putD acc ks z) R) (fun cs1 => dcW g wt wk wv (l.map g0) ρ cs1 acc R) (List.mem_cons_self ..) ?_
    rw [putD_new _ (hn a (List.mem_cons_self ..))]
    refine r_dcmA kf vf l _ (fun b hb => lk_app_none (hn b (List.mem_cons_of_mem _ hb)) fun z => n1 (by rw [← z]; exact List.mem_map.mpr ⟨b, hb, rfl⟩)) n2 (fun b N N' hb => hs b N N' (List.mem_cons_of_mem _ hb)) ?_
    rw [List.append_assoc]; exact hd
theorem r_dcm {α : Type} {R : List (Key × D) → Cs → Prop} {xs : List D} {l : List α} {g0 : α → D} (e : xs = l.map g0) (kf : α → Key) (vf : α → D) (hnd : (l.map kf).Nodup)
    (hs : ∀ a (N : Key → D → Cs → Prop) (N' : Cs → Prop), a ∈ l → N (kf a) (vf a) cs → g (g0 a) ρ fun ρ1 => wt ρ1 cs (fun b cs1 => (b = true → wk ρ1 cs1 (fun y cs2 => wv ρ1 cs2 (fun z cs3 => ∃ kk, kOf y = some kk ∧ N kk z cs3) Z0) Z0) ∧ (b = false → N' cs1)) Z0)
    (hd : R (l.map fun a => (kf a, vf a)) cs) : dcW g wt wk wv xs ρ cs [] R := by
  subst e; exact r_dcmA kf vf l [] (fun _ _ => rfl) hnd hs hd
theorem r_kkI {i : Int} {z : D} {N : Key → D → Cs → Prop} (h : N (.inl i) z cs) : ∃ kk, kOf (.int i) = some kk ∧ N kk z cs := ⟨_, rfl, h⟩
theorem r_kkS {x : Str} {z : D} {N : Key → D → Cs → Prop} (h : N (.inr x) z cs) : ∃ kk, kOf (.str x) = some kk ∧ N kk z cs := ⟨_, rfl, h⟩
end
end DL

/-! DLP: tables of rows' shapes; sizes by walks over them (plain mathematics). -/
namespace DL
open PySem PySem.Spec PyProof.Rows L2
/-- the rows: first and end -/
def spots (n : Nat) : List (Nat × Nat) := (List.range n).flatMap fun f => (List.range (n - f)).map fun j => (f, f + 1 + j)
def spK (p : Nat × Nat) : List Key := [.inl (p.1 : Int), .inl (p.2 : Int)]
theorem spK_inj {p q : Nat × Nat} (h : spK p = spK q) : p = q := by
  obtain ⟨a, b⟩ := p
  obtain ⟨c, d⟩ := q
  simp only [spK, List.cons.injEq, Sum.inl.injEq, and_true] at h
  obtain ⟨h1, h2⟩ := h
  have e1 : a = c := by omega
  have e2 : b = d := by omega
  rw [e1, e2]
theorem mem_spots {n : Nat} {p : Nat × Nat} : p ∈ spots n ↔ p.1 < p.2 ∧ p.2 ≤ n := by
  unfold spots
  rw [List.mem_flatMap]
  constructor
  · rintro ⟨f, hf, hp⟩
    obtain ⟨j, hj, rfl⟩ := List.mem_map.mp hp
    have := List.mem_range.mp hf
    have := List.mem_range.mp hj
    simp only
    omega
  · rintro ⟨h1, h2⟩
    refine ⟨p.1, List.mem_range.mpr (by omega), List.mem_map.mpr ⟨p.2 - p.1 - 1, List.mem_range.mpr (by omega), ?_⟩⟩
    obtain ⟨a, b⟩ := p
    simp only at h1 h2 ⊢
    congr 1
    omega
theorem spots_nodup (n : Nat) : (spots n).Nodup := by
  unfold spots List.Nodup
  rw [List.pairwise_flatMap]
  refine ⟨fun f _ => ?_, ?_⟩
  · rw [List.pairwise_map]
    refine List.Pairwise.imp (fun h z => ?_) (List.nodup_range (n := n - f))
    simp only [Prod.mk.injEq] at z
    omega
  · refine List.Pairwise.imp (fun h x hx y hy z => ?_) (List.nodup_range (n := n))
    obtain ⟨_, _, rfl⟩ := List.mem_map.mp hx
    obtain ⟨_, _, rfl⟩ := List.mem_map.mp hy
    simp only [Prod.mk.injEq] at z
    omega
theorem nodup_inj {α β : Type} {f : α → β} (hi : ∀ x y, f x = f y → x = y) {l : List α} (h : l.Nodup) : (l.map f).Nodup := by
  unfold List.Nodup
  rw [List.pairwise_map]
  exact List.Pairwise.imp (fun h z => h (hi _ _ z)) h
theorem spots_keys (n : Nat) : ((spots n).map spK).Nodup := nodup_inj (fun _ _ => spK_inj) (spots_nodup n)
/-- the shape of the row from f to e -/
def shp (b : Bx) (dn : Bool) (ws : List Int) (f e : Nat) : Rat := rowShape b dn ws f (e - f)
def tabOf (sh : Nat → Nat → Rat) (l : List (Nat × Nat)) : List (List Key × D) := l.map fun p => (spK p, dR (sh p.1 p.2))
def shapesT (b : Bx) (dn : Bool) (ws : List Int) : List (List Key × D) := tabOf (shp b dn ws) (spots ws.length)
theorem lk_tab {sh : Nat → Nat → Rat} {l : List (Nat × Nat)} {f e : Nat} (h : (f, e) ∈ l) : lk (tabOf sh l) [.inl (f : Int), .inl (e : Int)] = some (dR (sh f e)) :=
  look_map spK (fun p => dR (sh p.1 p.2)) (f, e) l h fun y _ hy => spK_inj hy
theorem lk_tab_none {sh : Nat → Nat → Rat} {l : List (Nat × Nat)} {f e : Nat} (h : (f, e) ∉ l) : lk (tabOf sh l) [.inl (f : Int), .inl (e : Int)] = none :=
  look_map_none spK (fun p => dR (sh p.1 p.2)) _ fun y hy z => h (by rw [← spK_inj (q := (f, e)) z]; exact hy)
theorem lk_shapes {b : Bx} {dn : Bool} {ws : List Int} {f e : Int} (h0 : 0 ≤ f) (h1 : f < e) (h2 : e ≤ ws.length) : lk (shapesT b dn ws) [.inl f, .inl e] = some (dR (shp b dn ws f.toNat e.toNat)) := by
  have := lk_tab (sh := shp b dn ws) (l := spots ws.length) (f := f.toNat) (e := e.toNat) (mem_spots.mpr ⟨by simp only; omega, by simp only; omega⟩)
  rw [show ((f.toNat : Nat) : Int) = f by omega, show ((e.toNat : Nat) : Int) = e by omega] at this
  exact this
theorem r_getSh {b : Bx} {dn : Bool} {ws : List Int} {f e : Int} {cs : Cs} {P : DP} (h0 : 0 ≤ f) (h1 : f < e) (h2 : e ≤ ws.length) (h : P (dR (shp b dn ws f.toNat e.toNat)) cs) : oGetD (.dct (shapesT b dn ws)) (.tup [.int f, .int e]) cs P := r_getT2 (lk_shapes h0 h1 h2) h
theorem shp_sz {b : Bx} {k : Nat} (hs : b.Sz k) (hp : b.Pos) (dn : Bool) {ws : List Int} (hw : WOk ws) {f e : Nat} (h1 : f < e) (h2 : e ≤ ws.length) : Sz ((k + 23) + (k + 23)) (shp b dn ws f e) :=
  rowShape_sz hs hp dn hw (by omega) (by omega)
theorem spots_len (n : Nat) : (spots n).length ≤ n * n := by
  unfold spots
  rw [List.length_flatMap]
  have : ∀ (l : List Nat), (l.map fun f => ((List.range (n - f)).map fun j => (f, f + 1 + j)).length).sum ≤ l.length * n := by
    intro l
    induction l with
    | nil => simp
    | cons x l ih =>
      rw [List.map_cons, List.sum_cons, List.length_cons, Nat.succ_mul]
      simp only [List.length_map, List.length_range] at ih ⊢
      omega
  have := this (List.range n)
  rw [List.length_range] at this
  exact this
def spotsTo (n i : Nat) : List (Nat × Nat) := (List.range i).flatMap fun f => (List.range (n - f)).map fun j => (f, f + 1 + j)
def spotsIn (n i j : Nat) : List (Nat × Nat) := spotsTo n i ++ (List.range j).map fun j => (i, i + 1 + j)
theorem spotsIn_zero (n i : Nat) : spotsIn n i 0 = spotsTo n i := by unfold spotsIn; simp
theorem spotsIn_succ (n i j : Nat) : spotsIn n i (j + 1) = spotsIn n i j ++ [(i, i + 1 + j)] := by
  unfold spotsIn
  rw [List.range_succ, List.map_append, List.append_assoc]; rfl
theorem spotsIn_last (n i : Nat) : spotsIn n i (n - i) = spotsTo n (i + 1) := by
  unfold spotsIn spotsTo
  rw [List.range_succ, List.flatMap_append]; simp
theorem spotsIn_not {n i j : Nat} : (i, i + 1 + j) ∉ spotsIn n i j := fun h => by
  unfold spotsIn spotsTo at h
  rcases List.mem_append.mp h with h | h
  · obtain ⟨f, hf, h⟩ := List.mem_flatMap.mp h
    obtain ⟨k, _, e⟩ := List.mem_map.mp h
    have := List.mem_range.mp hf
    simp only [Prod.mk.injEq] at e
    omega
  · obtain ⟨k, hk, e⟩ := List.mem_map.mp h
    have := List.mem_range.mp hk
    simp only [Prod.mk.injEq] at e
    omega
theorem spotsIn_mem {n i j : Nat} (hi : i < n) (hj : j ≤ n - i) {p : Nat × Nat} (h : p ∈ spotsIn n i j) : p ∈ spots n := by
  rw [mem_spots]
  unfold spotsIn spotsTo at h
  rcases List.mem_append.mp h with h | h
  · obtain ⟨f, hf, h⟩ := List.mem_flatMap.mp h
    obtain ⟨k, hk, rfl⟩ := List.mem_map.mp h
    have := List.mem_range.mp hf
    have := List.mem_range.mp hk
    simp only
    omega
  · obtain ⟨k, hk, rfl⟩ := List.mem_map.mp h
    have := List.mem_range.mp hk
    simp only
    omega
theorem tab_put {sh : Nat → Nat → Rat} {n i j : Nat} : putD (tabOf sh (spotsIn n i j)) [.inl (i : Int), .inl ((i + 1 + j : Nat) : Int)] (dR (sh i (i + 1 + j))) = tabOf sh (spotsIn n i (j + 1)) := by
  rw [putD_new _ (lk_tab_none spotsIn_not), spotsIn_succ]
  unfold tabOf
  rw [List.map_append]; rfl
theorem spotsIn_len {n i j : Nat} (hi : i < n) (hj : j ≤ n - i) (hn : n ≤ 12) : (spotsIn n i j).length ≤ 200 := by
  unfold spotsIn
  rw [List.length_append, List.length_map, List.length_range]
  have h2 : (spotsTo n i).length ≤ i * n := by
    unfold spotsTo
    rw [List.length_flatMap]
    have : ∀ (l : List Nat), (l.map fun f => ((List.range (n - f)).map fun j => (f, f + 1 + j)).length).sum ≤ l.length * n := by
      intro l
      induction l with
      | nil => simp
      | cons x l ih =>
        rw [List.map_cons, List.sum_cons, List.length_cons, Nat.succ_mul]
        simp only [List.length_map, List.length_range] at ih ⊢
        omega
    have := this (List.range i)
    rwa [List.length_range] at this
  have h3 : i * n ≤ 12 * 12 := Nat.mul_le_mul (by omega) hn
  omega
/-! ### rows that take things as long as they grow no worse -/
def gGo (sh : Nat → Nat → Rat) (n f : Nat) : Nat → Nat → Nat
  | 0, s => s
  | k + 1, s => if f + s < n ∧ ¬ sh f (f + s) < sh f (f + s + 1) then gGo sh n f k (s + 1) else s
def gSize (sh : Nat → Nat → Rat) (n f : Nat) : Nat := gGo sh n f n 1
def gAll (sh : Nat → Nat → Rat) (n : Nat) : Nat → Nat → List Int
  | 0, _ => []
  | k + 1, f => if f < n then (gSize sh n f : Int) :: gAll sh n k (f + gSize sh n f) else []
def greedyL (sh : Nat → Nat → Rat) (n : Nat) : List Int := gAll sh n n 0
section
variable {sh : Nat → Nat → Rat} {n f k s : Nat}
theorem gGo_stop (h : ¬ (f + s < n ∧ ¬ sh f (f + s) < sh f (f + s + 1))) : gGo sh n f k s = s := by
  cases k with
  | zero => rfl
  | succ k => rw [gGo, if_neg h]
theorem gGo_step (h : f + s < n ∧ ¬ sh f (f + s) < sh f (f + s + 1)) (hk : n ≤ f + s + k) : ∃ k', gGo sh n f k s = gGo sh n f k' (s + 1) ∧ n ≤ f + (s + 1) + k' := by
  cases k with
  | zero => omega
  | succ k => exact ⟨k, by rw [gGo, if_pos h], by omega⟩
theorem gGo_ge : ∀ (k s : Nat), s ≤ gGo sh n f k s
  | 0, s => Nat.le_refl _
  | k + 1, s => by
    rw [gGo]
    split
    · exact Nat.le_trans (Nat.le_succ s) (gGo_ge k (s + 1))
    · exact Nat.le_refl _
theorem gGo_le : ∀ (k s : Nat), f + s ≤ n → f + gGo sh n f k s ≤ n
  | 0, s, h => h
  | k + 1, s, h => by
    rw [gGo]
    split
    · rename_i q; exact gGo_le k (s + 1) (by omega)
    · exact h
theorem gSize_pos : 1 ≤ gSize sh n f := gGo_ge n 1
theorem gSize_le (h : f < n) : f + gSize sh n f ≤ n := gGo_le n 1 (by omega)
theorem gAll_step (h : f < n) (hk : n ≤ f + k) : ∃ k', gAll sh n k f = (gSize sh n f : Int) :: gAll sh n k' (f + gSize sh n f) ∧ n ≤ f + gSize sh n f + k' := by
  cases k with
  | zero => omega
  | succ k => exact ⟨k, by rw [gAll, if_pos h], by have := gSize_pos (sh := sh) (n := n) (f := f); omega⟩
theorem gAll_len : ∀ (k f : Nat), (gAll sh n k f).length ≤ k
  | 0, f => Nat.le_refl _
  | k + 1, f => by
    rw [gAll]
    split
    · exact Nat.succ_le_succ (gAll_len k _)
    · exact Nat.zero_le _
theorem greedyL_len : (greedyL sh n).length ≤ n := gAll_len n 0
theorem gAll_end (h : n ≤ f) : gAll sh n k f = [] := by
  cases k with
  | zero => rfl
  | succ k => rw [gAll, if_neg (by omega)]
/-- a row that took things as long as it grew no worse -/
structure GRow (sh : Nat → Nat → Rat) (n f z : Nat) : Prop where
  pos : 1 ≤ z
  le : f + z ≤ n
  no : ∀ s, 1 ≤ s → s < z → ¬ sh f (f + s) < sh f (f + s + 1)
  yes : f + z < n → sh f (f + z) < sh f (f + z + 1)
theorem gGo_row : ∀ (k s : Nat), 1 ≤ s → f + s ≤ n → n ≤ f + s + k → (∀ r, 1 ≤ r → r < s → ¬ sh f (f + r) < sh f (f + r + 1)) → GRow sh n f (gGo sh n f k s)
  | 0, s, h1, h2, h3, h4 => ⟨h1, h2, h4, fun h => by rw [gGo] at h; omega⟩
  | k + 1, s, h1, h2, h3, h4 => by
    rw [gGo]
    by_cases q : f + s < n ∧ ¬ sh f (f + s) < sh f (f + s + 1)
    · rw [if_pos q]
      refine gGo_row k (s + 1) (by omega) (by omega) (by omega) fun r r1 r2 => ?_
      by_cases e : r = s
      · rw [e]; exact q.2
      · exact h4 r r1 (by omega)
    · rw [if_neg q]
      exact ⟨h1, h2, h4, fun h => Decidable.byContradiction fun z => q ⟨h, z⟩⟩
theorem gSize_row (h : f < n) : GRow sh n f (gSize sh n f) := gGo_row n 1 (Nat.le_refl _) (by omega) (by omega) fun r r1 r2 => by omega
theorem gAll_rows : ∀ (k f : Nat), f ≤ n → n ≤ f + k → (∀ z ∈ gAll sh n k f, 1 ≤ z) ∧ (f : Int) + (gAll sh n k f).sum = n ∧ ∀ i z, (gAll sh n k f)[i]? = some z → GRow sh n ((f : Int) + preS (gAll sh n k f) i).toNat z.toNat
  | 0, f, h0, h => ⟨fun z hz => (nomatch hz), by rw [gAll]; simp; omega, fun i z hz => by rw [gAll] at hz; simp at hz⟩
  | k + 1, f, h0, h => by
    rw [gAll]
    by_cases q : f < n
    · have g := gSize_row (sh := sh) q
      rw [if_pos q]
      obtain ⟨i1, i2, i3⟩ := gAll_rows k (f + gSize sh n f) g.le (by have := g.pos; omega)
      refine ⟨fun z hz => ?_, ?_, fun i z hz => ?_⟩
      · rcases List.mem_cons.mp hz with e | e
        · rw [e]; have := g.pos; omega
        · exact i1 z e
      · rw [List.sum_cons]; omega
      · cases i with
        | zero =>
          simp at hz
          rw [preS_zero, ← hz]
          have e1 : ((f : Int) + 0).toNat = f := by omega
          have e2 : ((gSize sh n f : Nat) : Int).toNat = gSize sh n f := by omega
          rw [e1, e2]; exact g
        | succ i =>
          have hz' : (gAll sh n k (f + gSize sh n f))[i]? = some z := by simpa using hz
          have := i3 i z hz'
          have e : (f : Int) + preS ((gSize sh n f : Int) :: gAll sh n k (f + gSize sh n f)) (i + 1) = ((f + gSize sh n f : Nat) : Int) + preS (gAll sh n k (f + gSize sh n f)) i := by
            unfold preS
            rw [List.take_succ_cons, List.sum_cons]
            omega
          rw [e]; exact this
    · rw [if_neg q]
      exact ⟨fun z hz => (nomatch hz), by simp; omega, fun i z hz => by simp at hz⟩
theorem greedy_szok : SzOk (greedyL sh n) n := by
  obtain ⟨h1, h2, _⟩ := gAll_rows (sh := sh) (n := n) n 0 (Nat.zero_le _) (by omega)
  exact ⟨h1, by unfold greedyL; omega⟩
theorem greedy_row {i : Nat} {z : Int} (h : (greedyL sh n)[i]? = some z) : GRow sh n (preS (greedyL sh n) i).toNat z.toNat := by
  obtain ⟨_, _, h3⟩ := gAll_rows (sh := sh) (n := n) n 0 (Nat.zero_le _) (by omega)
  have := h3 i z h
  rw [show ((0 : Nat) : Int) + preS (gAll sh n n 0) i = preS (greedyL sh n) i by unfold greedyL; omega] at this
  exact this
end
end DL

/-! DLU: ways of rows from a beginning to the end: the least worst shape, least costs, the first of the best (plain mathematics). -/
namespace DL
open PySem PySem.Spec PyProof.Rows L2
/-! ### ways -/
/-- rows of sizes from f to n -/
inductive Way (n : Nat) : Nat → List Nat → Prop
  | nil : Way n n []
  | cons {f z : Nat} {zs : List Nat} : 1 ≤ z → f + z ≤ n → Way n (f + z) zs → Way n f (z :: zs)
theorem Way.le {n f : Nat} {zs : List Nat} (h : Way n f zs) : f ≤ n := by
  cases h with
  | nil => exact Nat.le_refl _
  | cons h1 h2 _ => omega
theorem Way.sum {n f : Nat} {zs : List Nat} (h : Way n f zs) : f + zs.sum = n := by
  induction h with
  | nil => rfl
  | cons _ _ _ ih => rw [List.sum_cons]; omega
theorem Way.pos {n f : Nat} {zs : List Nat} (h : Way n f zs) : ∀ z ∈ zs, 1 ≤ z := by
  induction h with
  | nil => intro z hz; cases hz
  | cons h1 _ _ ih =>
    intro z hz
    rcases List.mem_cons.mp hz with e | e
    · rw [e]; exact h1
    · exact ih z e
theorem Way.of {n : Nat} : ∀ {f : Nat} {zs : List Nat}, (∀ z ∈ zs, 1 ≤ z) → f + zs.sum = n → Way n f zs
  | f, [], _, h => by
    have : f = n := by simpa using h
    rw [this]; exact .nil
  | f, z :: zs, hp, h => by
    rw [List.sum_cons] at h
    exact .cons (hp z (List.mem_cons_self ..)) (by omega) (Way.of (fun y hy => hp y (List.mem_cons_of_mem _ hy)) (by omega))
theorem Way.end_ {n : Nat} {zs : List Nat} (h : Way n n zs) : zs = [] := by
  cases h with
  | nil => rfl
  | cons h1 h2 _ => omega
theorem way_ones {n : Nat} : ∀ (k f : Nat), f + k = n → Way n f (List.replicate k 1)
  | 0, f, h => by
    have : f = n := by omega
    subst this; exact .nil
  | k + 1, f, h => .cons (Nat.le_refl _) (by omega) (way_ones k (f + 1) (by omega))
/-- the worst shape of rows -/
def wFrom (sh : Nat → Nat → Rat) : Nat → List Nat → Rat
  | _, [] => 1
  | f, z :: zs => mxR (sh f (f + z)) (wFrom sh (f + z) zs)
theorem wFrom_or (sh : Nat → Nat → Rat) {n : Nat} {f : Nat} {zs : List Nat} (h : Way n f zs) : wFrom sh f zs = 1 ∨ ∃ a b, a < b ∧ b ≤ n ∧ wFrom sh f zs = sh a b := by
  induction h with
  | nil => exact .inl rfl
  | @cons f z zs h1 h2 _ ih =>
    rw [wFrom]
    rcases mxR_or (sh f (f + z)) (wFrom sh (f + z) zs) with e | e
    · exact .inr ⟨f, f + z, by omega, h2, e⟩
    · rw [e]; exact ih
/-- x is the least worst shape behind f -/
structure IsLE (sh : Nat → Nat → Rat) (n f : Nat) (x : Rat) : Prop where
  is : ∃ zs, Way n f zs ∧ wFrom sh f zs = x
  le : ∀ zs, Way n f zs → x ≤ wFrom sh f zs
section
variable {sh : Nat → Nat → Rat} {n f : Nat} {x y : Rat}
theorem IsLE.uniq (h : IsLE sh n f x) (h' : IsLE sh n f y) : x = y := by
  obtain ⟨zs, w, e⟩ := h.is
  obtain ⟨zs', w', e'⟩ := h'.is
  exact Rat.le_antisymm (by rw [← e']; exact h.le zs' w') (by rw [← e]; exact h'.le zs w)
theorem IsLE.end_ : IsLE sh n n 1 := ⟨⟨[], .nil, rfl⟩, fun zs h => by rw [h.end_]; exact Rat.le_refl⟩
/-- by the next row -/
theorem IsLE.step (L : Nat → Rat) (hL : ∀ e, f < e → e ≤ n → IsLE sh n e (L e)) (h1 : ∃ e, f < e ∧ e ≤ n ∧ x = mxR (sh f e) (L e)) (h2 : ∀ e, f < e → e ≤ n → x ≤ mxR (sh f e) (L e)) : IsLE sh n f x := by
  refine ⟨?_, fun zs w => ?_⟩
  · obtain ⟨e, e1, e2, rfl⟩ := h1
    obtain ⟨zs, w, ew⟩ := (hL e e1 e2).is
    have he : f + (e - f) = e := by omega
    refine ⟨(e - f) :: zs, .cons (by omega) (by omega) (by rw [he]; exact w), ?_⟩
    rw [wFrom, he, ew]
  · cases w with
    | nil =>
      obtain ⟨e, e1, e2, _⟩ := h1
      omega
    | @cons _ z zs z1 z2 w =>
      refine Rat.le_trans (h2 (f + z) (by omega) z2) ?_
      rw [wFrom]
      have := (hL (f + z) (by omega) z2).le zs w
      unfold mxR
      split
      · split
        · exact this
        · rename_i q; exact Rat.le_trans this (Rat.not_lt.mp q)
      · split
        · rename_i q; exact Rat.le_of_lt q
        · exact Rat.le_refl
theorem IsLE.sz {k : Nat} (h : IsLE sh n f x) (h1 : Sz k 1) (hs : ∀ a b, a < b → b ≤ n → Sz k (sh a b)) : Sz k x := by
  obtain ⟨zs, w, rfl⟩ := h.is
  rcases wFrom_or sh w with e | ⟨a, b, ha, hb, e⟩
  · rw [e]; exact h1
  · rw [e]; exact hs a b ha hb
open Classical in
/-- the least worst shape behind f -/
noncomputable def LE (sh : Nat → Nat → Rat) (n f : Nat) : Rat := if h : ∃ x, IsLE sh n f x then h.choose else 1
theorem IsLE.eq (h : IsLE sh n f x) : LE sh n f = x := by
  unfold LE
  rw [dif_pos ⟨x, h⟩]
  exact (Exists.choose_spec (⟨x, h⟩ : ∃ x, IsLE sh n f x)).uniq h
theorem LE_is : ∀ (k f : Nat), f + k = n → IsLE sh n f (LE sh n f)
  | k, f, hk => by
    suffices h : ∃ x, IsLE sh n f x by obtain ⟨x, hx⟩ := h; rw [hx.eq]; exact hx
    induction k using Nat.strongRecOn generalizing f with
    | _ k ih =>
      by_cases e : f = n
      · subst e; exact ⟨1, .end_⟩
      · have all : ∀ e, f < e → e ≤ n → IsLE sh n e (LE sh n e) := fun e e1 e2 => by
          obtain ⟨x, hx⟩ := ih (n - e) (by omega) e (by omega)
          rw [hx.eq]; exact hx
        have mn : ∀ m : Nat, f + 1 + m ≤ n → ∃ x, (∃ e, f < e ∧ e ≤ f + 1 + m ∧ x = mxR (sh f e) (LE sh n e)) ∧ ∀ e, f < e → e ≤ f + 1 + m → x ≤ mxR (sh f e) (LE sh n e) := by
          intro m hm
          induction m with
          | zero => exact ⟨_, ⟨f + 1, by omega, by omega, rfl⟩, fun e e1 e2 => by rw [show e = f + 1 by omega]; exact Rat.le_refl⟩
          | succ m ihm =>
            obtain ⟨x, ⟨e, e1, e2, ex⟩, hx⟩ := ihm (by omega)
            by_cases q : x ≤ mxR (sh f (f + 1 + (m + 1))) (LE sh n (f + 1 + (m + 1)))
            · refine ⟨x, ⟨e, e1, by omega, ex⟩, fun e' h1 h2 => ?_⟩
              by_cases z : e' = f + 1 + (m + 1)
              · rw [z]; exact q
              · exact hx e' h1 (by omega)
            · have q' := Rat.le_of_lt (Rat.not_le.mp q)
              refine ⟨_, ⟨f + 1 + (m + 1), by omega, by omega, rfl⟩, fun e' h1 h2 => ?_⟩
              by_cases z : e' = f + 1 + (m + 1)
              · rw [z]; exact Rat.le_refl
              · exact Rat.le_trans q' (hx e' h1 (by omega))
        obtain ⟨x, ⟨e, e1, e2, ex⟩, hx⟩ := mn (n - (f + 1)) (by omega)
        exact ⟨x, IsLE.step _ all ⟨e, e1, by omega, ex⟩ fun e' h1 h2 => hx e' h1 (by omega)⟩
theorem LE_ok (h : f ≤ n) : IsLE sh n f (LE sh n f) := LE_is (n - f) f (by omega)
theorem LE_n : LE sh n n = 1 := IsLE.end_.eq
end
/-- the first of the ways on which all rows are good -/
inductive IsFW (good : Nat → Nat → Prop) (n : Nat) : Nat → List Nat → Prop
  | nil : IsFW good n n []
  | cons {f z : Nat} {zs : List Nat} : 1 ≤ z → f + z ≤ n → good f (f + z) → (∀ y, 1 ≤ y → y < z → ¬ good f (f + y)) → IsFW good n (f + z) zs → IsFW good n f (z :: zs)
section
variable {good : Nat → Nat → Prop} {n f : Nat} {zs ys : List Nat}
theorem IsFW.way (h : IsFW good n f zs) : Way n f zs := by
  induction h with
  | nil => exact .nil
  | cons h1 h2 _ _ _ ih => exact .cons h1 h2 ih
theorem IsFW.uniq (h : IsFW good n f zs) : ∀ {ys}, IsFW good n f ys → zs = ys := by
  induction h with
  | nil => intro ys h'; exact h'.way.end_.symm
  | @cons f z zs h1 h2 g m r ih =>
    intro ys h'
    cases h' with
    | nil => omega
    | @cons _ y ys h1' h2' g' m' r' =>
      have e : z = y := by
        rcases Nat.lt_trichotomy z y with q | q | q
        · exact absurd g (m' z h1 q)
        · exact q
        · exact absurd g' (m y h1' q)
      subst e
      rw [ih r']
end
/-! ### the best sizes -/
def natD (z : Nat) : D := .int (z : Int)
def gB (sh : Nat → Nat → Rat) (n : Nat) (f e : Nat) : Prop := ¬ LE sh n 0 < sh f e ∧ ¬ LE sh n 0 < LE sh n e
section
variable {sh : Nat → Nat → Rat} {n f : Nat} {B : Rat}
theorem LE_next (hf : f < n) (hB : ¬ B < LE sh n f) : ∃ e, f < e ∧ e ≤ n ∧ ¬ B < sh f e ∧ ¬ B < LE sh n e := by
  have h := LE_ok (sh := sh) (Nat.le_of_lt hf)
  obtain ⟨zs, w, e⟩ := h.is
  cases w with
  | nil => omega
  | @cons _ z zs z1 z2 w =>
    rw [wFrom] at e
    have h2 := (LE_ok (sh := sh) z2).le zs w
    refine ⟨f + z, by omega, z2, fun q => hB ?_, fun q => hB ?_⟩
    · rw [← e]; exact Std.lt_of_lt_of_le q (mxR_l _ _)
    · rw [← e]; exact Std.lt_of_lt_of_le q (Rat.le_trans h2 (mxR_r _ _))
theorem IsFW.snoc {good : Nat → Nat → Prop} {g e : Nat} {ys : List Nat} (h : ∀ zs, IsFW good n f zs → IsFW good n g (ys ++ zs)) (h1 : f < e) (h2 : e ≤ n) (hg : good f e) (hn : ∀ y, f < y → y < e → ¬ good f y) : ∀ zs, IsFW good n e zs → IsFW good n g ((ys ++ [e - f]) ++ zs) := fun zs hz => by
  rw [List.append_assoc]
  have e1 : f + (e - f) = e := by omega
  exact h _ (.cons (by omega) (by omega) (by rw [e1]; exact hg) (fun y y1 y2 => hn (f + y) (by omega) (by omega)) (by rw [e1]; exact hz))
theorem best_worst {zs : List Nat} (h : IsFW (gB sh n) n f zs) (h1 : ¬ LE sh n 0 < 1) : ¬ LE sh n 0 < wFrom sh f zs := by
  induction h with
  | nil => exact h1
  | @cons f z zs z1 z2 g m r ih =>
    rw [wFrom]
    rcases mxR_or (sh f (f + z)) (wFrom sh (f + z) zs) with e | e
    · rw [e]; exact g.1
    · rw [e]; exact ih
theorem wFrom_ge {n f : Nat} {zs : List Nat} (h : Way n f zs) : 1 ≤ wFrom sh f zs := by
  induction h with
  | nil => exact Rat.le_refl
  | cons _ _ _ ih => rw [wFrom]; exact Rat.le_trans ih (mxR_r _ _)
theorem LE_ge (h : f ≤ n) : 1 ≤ LE sh n f := by
  obtain ⟨zs, w, e⟩ := (LE_ok (sh := sh) h).is
  rw [← e]; exact wFrom_ge w
theorem best_is {zs : List Nat} (h : IsFW (gB sh n) n 0 zs) : wFrom sh 0 zs = LE sh n 0 :=
  Rat.le_antisymm (Rat.not_lt.mp (best_worst h (Rat.not_lt.mpr (LE_ge (Nat.zero_le n))))) ((LE_ok (Nat.zero_le n)).le zs h.way)
end
/-! ### the worst shape, by sizes that are ints -/
theorem shapeR_ge {x y : Rat} (x0 : 0 < x) (y0 : 0 < y) : 1 ≤ shapeR x y := Rat.not_lt.mp (shapeR_one x0 y0)
theorem rowShape_ge {b : Bx} (hp : b.Pos) (dn : Bool) {ws : List Int} (hw : WOk ws) {i n : Nat} (hn : 1 ≤ n) (h : i + n ≤ ws.length) : 1 ≤ rowShape b dn ws i n := by
  have hm := maxL_is (l := ((ws.drop i).take n).map (rsh b dn ((ws.drop i).take n).sum ws.sum)) (by simpa using row_nonempty hn h)
  obtain ⟨w, hw1, e⟩ := List.mem_map.mp hm.mem
  unfold rowShape
  rw [← e]
  have rw_ := sub_wok hw hn h
  obtain ⟨j, hj⟩ := List.getElem?_of_mem hw1
  have w1 := rw_.pos w hw1
  have w2 := mem_le_sum rw_.pos hj
  have s1 := sub_sum hw.pos i n
  have p1 := divInt_pos' (a := ((ws.drop i).take n).sum) (b := ws.sum) (by omega) (by omega)
  have p2 := divInt_pos' (a := w) (b := ((ws.drop i).take n).sum) (by omega) (by omega)
  unfold rsh
  cases dn with
  | true => exact shapeR_ge (Rat.mul_pos hp.h p1) (Rat.mul_pos hp.w p2)
  | false => exact shapeR_ge (Rat.mul_pos hp.w p1) (Rat.mul_pos hp.h p2)
/-- the shapes of rows from f on -/
def rowsFrom (sh : Nat → Nat → Rat) : Nat → List Nat → List Rat
  | _, [] => []
  | f, z :: zs => sh f (f + z) :: rowsFrom sh (f + z) zs
theorem wFrom_max {sh : Nat → Nat → Rat} {n : Nat} (h1 : ∀ a e, a < e → e ≤ n → 1 ≤ sh a e) {f : Nat} {zs : List Nat} (h : Way n f zs) (hz : zs ≠ []) : wFrom sh f zs = maxL (rowsFrom sh f zs) := by
  have key : ∀ {f : Nat} {zs : List Nat}, Way n f zs → zs ≠ [] → IsMax (wFrom sh f zs) (rowsFrom sh f zs) := by
    intro f zs h
    induction h with
    | nil => intro z; exact absurd rfl z
    | @cons f z zs z1 z2 w ih =>
      intro _
      rw [wFrom, rowsFrom]
      cases zs with
      | nil =>
        rw [wFrom, rowsFrom, mxR_neg (Rat.not_lt.mpr (h1 f (f + z) (by omega) z2))]
        exact ⟨List.mem_cons_self .., fun y hy => by rw [List.mem_singleton.mp hy]; exact Rat.le_refl⟩
      | cons y ys =>
        have i := ih (fun z => by cases z)
        refine ⟨?_, fun x hx => ?_⟩
        · rcases mxR_or (sh f (f + z)) (wFrom sh (f + z) (y :: ys)) with e | e <;> rw [e]
          · exact List.mem_cons_self ..
          · exact List.mem_cons_of_mem _ i.mem
        · rcases List.mem_cons.mp hx with e | e
          · rw [e]; exact mxR_l _ _
          · exact Rat.le_trans (i.le x e) (mxR_r _ _)
  exact (maxL_eq (key h hz)).symm
theorem rows_eq (sh : Nat → Nat → Rat) : ∀ (zs : List Nat) (f : Nat), rowsFrom sh f zs = (List.range zs.length).map fun i => sh (f + (zs.take i).sum) (f + (zs.take i).sum + zs.getD i 0)
  | [], f => rfl
  | z :: zs, f => by
    rw [rowsFrom, List.length_cons, List.range_succ_eq_map, List.map_cons, List.map_map, rows_eq sh zs (f + z)]
    congr 1
    refine List.map_congr_left fun i _ => ?_
    simp [Nat.add_assoc]
theorem sum_cast : ∀ (l : List Nat), ((l.map fun z : Nat => (z : Int)).sum : Int) = (l.sum : Nat)
  | [] => rfl
  | z :: l => by rw [List.map_cons, List.sum_cons, List.sum_cons, sum_cast l]; omega
theorem worst_way {b : Bx} (hp : b.Pos) (dn : Bool) {ws : List Int} (hw : WOk ws) {zs : List Nat} (h : Way ws.length 0 zs) : worstR b dn ws (zs.map fun z : Nat => (z : Int)) = wFrom (shp b dn ws) 0 zs := by
  have hn : zs ≠ [] := fun z => by
    have := h.sum
    rw [z] at this
    have := hw.l0
    simp at *
    omega
  have hge : ∀ a e, a < e → e ≤ ws.length → 1 ≤ shp b dn ws a e := fun a e h1 h2 => rowShape_ge hp dn hw (by omega) (by omega)
  rw [wFrom_max hge h hn, rows_eq]
  unfold worstR
  rw [List.length_map]
  congr 1
  refine List.map_congr_left fun i hi => ?_
  have hi := List.mem_range.mp hi
  unfold shp preS
  rw [← List.map_take, sum_cast]
  have e2 : (zs.map fun z : Nat => (z : Int)).getD i 0 = ((zs.getD i 0 : Nat) : Int) := by
    simp [List.getD_eq_getElem?_getD, List.getElem?_map, List.getElem?_eq_getElem hi]
  rw [e2]
  congr 1 <;> omega
theorem way_szok {n : Nat} {zs : List Nat} (h : Way n 0 zs) : SzOk (zs.map fun z : Nat => (z : Int)) n := by
  refine ⟨fun z hz => ?_, ?_⟩
  · obtain ⟨y, hy, rfl⟩ := List.mem_map.mp hz
    have := h.pos y hy
    omega
  · rw [sum_cast]
    have := h.sum
    omega
theorem szok_way {n : Nat} {zs : List Int} (h : SzOk zs n) : ∃ ys, zs = ys.map (fun z : Nat => (z : Int)) ∧ Way n 0 ys := by
  refine ⟨zs.map Int.toNat, ?_, ?_⟩
  · rw [List.map_map]
    refine (List.map_id zs).symm.trans (List.map_congr_left fun z hz => ?_)
    have := h.pos z hz
    show z = ((z.toNat : Nat) : Int)
    omega
  · refine Way.of (fun z hz => ?_) ?_
    · obtain ⟨y, hy, rfl⟩ := List.mem_map.mp hz
      have := h.pos y hy
      omega
    · have e : ((zs.map Int.toNat).map fun z : Nat => (z : Int)) = zs := by
        rw [List.map_map]
        refine (List.map_congr_left fun z hz => ?_).trans (List.map_id zs)
        have := h.pos z hz
        show ((z.toNat : Nat) : Int) = z
        omega
      have s := sum_cast (zs.map Int.toNat)
      rw [e, h.sum] at s
      omega
theorem worst_ge {b : Bx} (hp : b.Pos) (dn : Bool) {ws zs : List Int} (hw : WOk ws) (hz : SzOk zs ws.length) : LE (shp b dn ws) ws.length 0 ≤ worstR b dn ws zs := by
  obtain ⟨ys, rfl, w⟩ := szok_way hz
  rw [worst_way hp dn hw w]
  exact (LE_ok (Nat.zero_le _)).le ys w
end DL

/-! DLV: more walks: reversed(range(..)), range(.., .., -1), list(range(..)). -/
namespace DL
open PySem PySem.Spec PyProof.Rows L2
section
variable {X : Cx} {W : WX} {K : PySem.W.Frag} {σ : L2.St} {H : Hp} {a e : Expr} {wa we : DL.WE} {w : WA} {pos : Pos}
theorem yi_rangeC (G : Hp) (lo c : Int) (n : Nat) : YI K (Itc lo c n) G ((List.range n).map fun (i : Nat) => D.int (lo + (i : Int) * c)) where
  go := fun i d e F cs H s => by
    have z := (List.getElem?_eq_some_iff.mp e).1
    rw [List.length_map, List.length_range] at z
    exact z
  yld := fun i d e F cs H x H' s hy => by
    obtain ⟨rfl, rfl⟩ := hy
    obtain ⟨hi, e3⟩ := List.getElem?_eq_some_iff.mp e
    rw [List.getElem_map, List.getElem_range] at e3
    rw [← e3]
    exact ⟨s.self, .int _⟩
  stop := fun F cs H s => by
    show n ≤ _
    rw [List.length_map, List.length_range]; exact Nat.le_refl _
/-- n - 1, .., 0 -/
def dnD (n : Nat) : List D := (List.range n).map fun (i : Nat) => D.int ((n : Int) - 1 - (i : Int))
def iRev1 (wa : DL.WE) : WI := fun ρ cs P Z => wa ρ cs (fun d cs1 => match d with
  | .int j => (0 ≤ j ∧ j < 2 ^ 62) ∧ P (dnD j.toNat) cs1
  | _ => False) Z
theorem di_rev1 {tg : Expr} {p p2 pos2 : Pos} (hg : Gl X "reversed") (hm : X.mg "reversed" = none) (hg2 : Gl X "range") (hm2 : X.mg "range" = none) (ha : DE X W a wa) (na : starEach [a] X.env = (false, eval a X.env) :: starEach [] X.env := by rfl)
    (hs : starEach [.Call (.Name "range" p2) [a] [] pos2] X.env = (false, eval (.Call (.Name "range" p2) [a] [] pos2) X.env) :: starEach [] X.env := by rfl) : DI X W tg (.Call (.Name "reversed" p) [.Call (.Name "range" p2) [a] [] pos2] [] pos) (iRev1 wa) :=
  PI.imp (pi_revR hg hm (prg_1 hg2 hm2 ha na) hs) fun σ H R hq => by
    obtain ⟨F, cs, ρ, P, Z, s, re, hw, pe, px⟩ := hq
    refine ⟨F, cs, ρ, _, Z, s, re, hw, fun H1 cs1 v d s1 r1 h1 => ?_, px⟩
    cases d <;> try exact h1.elim
    rename_i j
    cases r1
    obtain ⟨⟨h2, h3⟩, h4⟩ := h1
    refine ⟨j, rfl, by decide, by decide, by omega, h3, pe H1 cs1 _ _ s1 (yi_rangeC _ _ _ _) ?_⟩
    have e1 : ((List.range (j - 0).toNat).map fun (i : Nat) => D.int (0 + (((j - 0).toNat : Nat) : Int) - 1 + (i : Int) * -1)) = dnD j.toNat := by
      unfold dnD
      rw [Int.sub_zero]
      refine List.map_congr_left fun i _ => ?_
      congr 1
      omega
    rw [e1]; exact h4
/-- range(a, b, -1) -/
def dnR (i : Int) (n : Nat) : List D := (List.range n).map fun (k : Nat) => D.int (i - (k : Int))
def iRg3 (w : WA) : WI := fun ρ cs P Z => w ρ cs (fun ds cs1 => match ds with
  | [.int i, .int j, .int (-1)] => (-(2 ^ 62) ≤ i ∧ i < 2 ^ 62 ∧ -(2 ^ 62) ≤ j ∧ j < 2 ^ 62) ∧ P (dnR i (i - j).toNat) cs1
  | _ => False) Z
theorem rg3_inv {ds : List D} {g : Int → Int → Prop} (h : (match ds with | [D.int i, D.int j, D.int (-1)] => g i j | _ => False)) : ∃ i j, ds = [.int i, .int j, .int (-1)] ∧ g i j := by
  split at h
  · exact ⟨_, _, rfl, h⟩
  · exact h.elim
theorem di_range3 {tg b c : Expr} {p : Pos} (hg : Gl X "range") (hm : X.mg "range" = none) (ha : DA X W [a, b, c] w) (hs : starEach [a, b, c] X.env = (false, eval a X.env) :: starEach [b, c] X.env := by rfl) (hpl : (backTo pos (starEach [b, c] X.env)).any (·.1) = false := by rfl) :
    DI X W tg (.Call (.Name "range" p) [a, b, c] [] pos) (iRg3 w) := PI.imp (pi_range3 hg hm ha hs hpl) fun σ H R hq => by
    obtain ⟨F, cs, ρ, P, Z, s, re, hw, pe, px⟩ := hq
    refine ⟨F, cs, ρ, _, Z, s, re, hw, fun H1 cs1 vs ds s1 r1 l1 h1 => ?_, px⟩
    obtain ⟨i, j, rfl, ⟨h2, h3, h4, h5⟩, h6⟩ := rg3_inv h1
    cases r1 with
    | cons q1 r1 =>
    cases r1 with
    | cons q2 r1 =>
    cases r1 with
    | cons q3 r1 =>
    cases q1; cases q2; cases q3; cases r1
    refine ⟨i, j, -1, _, rfl, RgC.neg h2 h3 h4 h5, pe H1 cs1 _ _ s1 (yi_rangeC _ _ _ _) ?_⟩
    have e1 : ((List.range (i - j).toNat).map fun (k : Nat) => D.int (i + (k : Int) * -1)) = dnR i (i - j).toNat := by
      unfold dnR
      refine List.map_congr_left fun k _ => ?_
      congr 1
      omega
    rw [e1]; exact h6
/-- list(range(n)) -/
def wLstR (wa : DL.WE) : DL.WE := fun ρ cs P Z => wa ρ cs (fun d cs1 => match d with
  | .int j => (0 ≤ j ∧ j ≤ 100000) ∧ P (.lst (rngD 0 j.toNat)) cs1
  | _ => False) Z
def wLstRM (wa : DL.WE) : DL.WE := fun ρ cs P Z => wa ρ cs (fun d cs1 => match d with
  | .int j => (0 ≤ j ∧ j ≤ 100000) ∧ ∀ p, p ∉ adr cs1 → P (.opq (.ref p)) ((p, .lst (rngD 0 j.toNat)) :: cs1)
  | _ => False) Z
theorem rgV_rep {G : Hp} (j : Int) : RepL K G (rgV 0 j) (rngD 0 j.toNat) := by
  unfold rgV rngD
  rw [Int.sub_zero]
  generalize List.range j.toNat = l
  induction l with
  | nil => exact .nil
  | cons x l ih => exact .cons (.int _) ih
theorem d_listR {p p2 pos2 : Pos} (hc : X.calm = true) (hg : Gl X "list") (hm : X.mg "list" = none) (hg2 : Gl X "range") (hm2 : X.mg "range" = none) (ha : DE X W a wa) (na : starEach [a] X.env = (false, eval a X.env) :: starEach [] X.env := by rfl)
    (hs : starEach [.Call (.Name "range" p2) [a] [] pos2] X.env = (false, eval (.Call (.Name "range" p2) [a] [] pos2) X.env) :: starEach [] X.env := by rfl) : DE X W (.Call (.Name "list" p) [.Call (.Name "range" p2) [a] [] pos2] [] pos) (wLstR wa) :=
  PE.imp (pe_listRg hc hg hm (prg_1 hg2 hm2 ha na) hs) fun σ H Q hq => by
    obtain ⟨F, cs, ρ, P, Z, s, re, hw, pe, px⟩ := hq
    refine ⟨F, cs, ρ, _, Z, s, re, hw, fun H1 cs1 v d s1 r1 h1 => ?_, px⟩
    cases d <;> try exact h1.elim
    rename_i j
    cases r1
    obtain ⟨⟨h2, h3⟩, h4⟩ := h1
    refine ⟨j, rfl, RgOk.of_le (by decide) (by omega) (by decide) h2, fun q hq => ?_⟩
    obtain ⟨s2, e2⟩ := s1.new (o := .lst (rgV 0 j)) hq
    exact pe _ _ _ _ (s2.from_ s1.gr) (.lst (SqL.of e2) (rgV_rep j)) h4
theorem d_listRM {p p2 pos2 : Pos} (hc : X.calm = true) (hg : Gl X "list") (hm : X.mg "list" = none) (hg2 : Gl X "range") (hm2 : X.mg "range" = none) (ha : DE X W a wa) (na : starEach [a] X.env = (false, eval a X.env) :: starEach [] X.env := by rfl)
    (hs : starEach [.Call (.Name "range" p2) [a] [] pos2] X.env = (false, eval (.Call (.Name "range" p2) [a] [] pos2) X.env) :: starEach [] X.env := by rfl) : DE X W (.Call (.Name "list" p) [.Call (.Name "range" p2) [a] [] pos2] [] pos) (wLstRM wa) :=
  PE.imp (pe_listRg hc hg hm (prg_1 hg2 hm2 ha na) hs) fun σ H Q hq => by
    obtain ⟨F, cs, ρ, P, Z, s, re, hw, pe, px⟩ := hq
    refine ⟨F, cs, ρ, _, Z, s, re, hw, fun H1 cs1 v d s1 r1 h1 => ?_, px⟩
    cases d <;> try exact h1.elim
    rename_i j
    cases r1
    obtain ⟨⟨h2, h3⟩, h4⟩ := h1
    refine ⟨j, rfl, RgOk.of_le (by decide) (by omega) (by decide) h2, fun q hq => ?_⟩
    have s2 := s1.newM (m := .lst (rngD 0 j.toNat)) (o := .lst (rgV 0 j)) hq (rgV_rep j)
    exact pe _ _ _ _ (s2.from_ s1.gr) (.opq _) (h4 q (s1.notin hq).2)
end
section
variable {ρ : DL.Env} {cs : Cs} {P : DP} {Z : XZ} {wa wb wc : DL.WE}
theorem r_rev1 {R : List D → Cs → Prop} (h : wa ρ cs (fun d cs1 => match d with
  | .int j => (0 ≤ j ∧ j < 2 ^ 62) ∧ R (dnD j.toNat) cs1
  | _ => False) Z) : iRev1 wa ρ cs R Z := h
theorem r_rg3 {R : List D → Cs → Prop} {i j : Int} {w : WA} (h : w ρ cs (fun ds cs1 => match ds with
  | [.int i, .int j, .int (-1)] => (-(2 ^ 62) ≤ i ∧ i < 2 ^ 62 ∧ -(2 ^ 62) ≤ j ∧ j < 2 ^ 62) ∧ R (dnR i (i - j).toNat) cs1
  | _ => False) Z) : iRg3 w ρ cs R Z := h
theorem r_lstR (h : wa ρ cs (fun d cs1 => match d with
  | .int j => (0 ≤ j ∧ j ≤ 100000) ∧ P (.lst (rngD 0 j.toNat)) cs1
  | _ => False) Z) : wLstR wa ρ cs P Z := h
theorem r_lstRM (h : wa ρ cs (fun d cs1 => match d with
  | .int j => (0 ≤ j ∧ j ≤ 100000) ∧ ∀ p, p ∉ adr cs1 → P (.opq (.ref p)) ((p, .lst (rngD 0 j.toNat)) :: cs1)
  | _ => False) Z) : wLstRM wa ρ cs P Z := h
theorem dnD_of {j : Int} {n : Nat} (h : j.toNat = n) : dnD j.toNat = (List.range n).map fun (i : Nat) => D.int ((n : Int) - 1 - (i : Int)) := by rw [h]; rfl
theorem dnR_of {j i : Int} {n m : Nat} (h : j.toNat = n) (hi : i = (m : Int)) : dnR i j.toNat = (List.range n).map fun (k : Nat) => D.int ((m : Int) - (k : Int)) := by rw [h, hi]; rfl
end
/-! ### tuple * int -/
theorem tuple_mul1 (l : Addr) (items : Array Value) (n : Nat) (dd : Option Addr) (sl : Array (Option Value)) (u : Tok) :
    Meets (Builtin.«tuple.__mul__» ⟨[.ref l, .int 1 u], []⟩) (fun _ R s => s.heap.get? l = some { cls := .type "tuple", dict := dd, data := .seq items n, slots := sl } ∧ R (.ok (.ret (Value.ref l))) s) :=
  .of_wp fun prog w A R s h => by
    obtain ⟨hp, g, d, tk, os⟩ := s
    obtain ⟨hl, h⟩ := h
    have f1 := AutoSeq1.idx_int
    have c1 : (items.isEmpty || (1 : Int) == 1) = true := by cases items.isEmpty <;> rfl
    wp_walk using wpAny_loadPart' hl
    repeat (first
      | (refine wpAny_ite_true (decide_eq_true c1) ?_; wp_walk using wpAny_loadPart' hl)
      | (refine wpAny_ite_true (by rw [c1]; rfl) ?_; wp_walk using wpAny_loadPart' hl))
    exact ⟨_, rfl, h⟩
def rRepO (K : PySem.W.Frag) : R2 := fun x y H Q => ∃ l xs, x = .ref l ∧ y = .int 1 ∧ SqT K H l xs ∧ Q (.ref l) H
section
variable {X : Cx} {W : WX} {K : PySem.W.Frag} {a b : Expr} {wa wb : DL.WE} {pos : Pos}
theorem op_repO : OpR X (binaryOp .Mult) (rRepO X.K) := by
  intro pins s σ H x y v u Q I rx ry h
  obtain ⟨l, xs, rfl, rfl, hT, q⟩ := h
  cases rx
  obtain ⟨t, rfl⟩ := ry
  obtain ⟨its, r, ⟨⟨cls, dd, data, sl⟩, ho, hc, n, hd⟩, hs⟩ := I.tuple hT
  simp only at hc hd
  subst hc hd
  exact wpAny_binaryOp_repeat_ref (T := "tuple") (U := "int") (by decide) ⟨_, ho, rfl⟩ (fun s' => typeIs_int s' 1 t) noFill_tuple_mul F.fills_int_mul F.slot_int_rmul repeat_tuple F.slot_int_index.lookup
    (call_meets F.slot_int_rmul (typeIs_int s 1 t) F.entry_int_rmul (F.args_int_rmul_2 _ _) (int_rmul_tuple 1 t l its.toArray n dd sl)
      ⟨ho, rfl, ⟨_, ho, rfl⟩, call_meets F.slot_tuple_mul ⟨_, ho, rfl⟩ F.entry_tuple_mul (F.args_tuple_mul_2 _ _) (tuple_mul1 l its.toArray n dd sl t) ⟨ho, .ref l, H, I, rfl, q⟩⟩)
def rRep (K : PySem.W.Frag) : R2 := fun x y H Q => rRepO K x y H Q ∨ rRepT K x y H Q
theorem op_rep : OpR X (binaryOp .Mult) (rRep X.K) := by
  intro pins s σ H x y v u Q I rx ry h
  rcases h with h | h
  · exact op_repO pins s σ H x y v u Q I rx ry h
  · exact op_repT pins s σ H x y v u Q I rx ry h
def oRep : DO2 := fun x y cs P => ∃ (xs : List D) (k : Nat), x = .tup xs ∧ y = .int (k : Int) ∧ xs ≠ [] ∧ 1 ≤ k ∧ k ≤ 1000 ∧ xs.length ≤ 1000 ∧ P (.tup (List.replicate k xs).flatten) cs
theorem RepL.rep {G : Hp} {vs : List V} {ds : List D} (h : RepL K G vs ds) : ∀ k : Nat, RepL K G (List.replicate k vs).flatten (List.replicate k ds).flatten
  | 0 => .nil
  | k + 1 => by
    rw [List.replicate_succ, List.replicate_succ, List.flatten_cons, List.flatten_cons]
    exact h.append (RepL.rep h k)
theorem adq_rep : Adq K (rRep K) oRep := fun F cs H x y dx dy P Q s rx ry ho pe => by
  obtain ⟨xs, k, rfl, rfl, hne, h1, h2, h3, h⟩ := ho
  cases ry
  cases rx with
  | @tup a vs _ e r =>
  by_cases hk : k = 1
  · subst hk
    refine .inl ⟨a, vs, rfl, rfl, ex_t pur_le e, ?_⟩
    have e2 : (List.replicate 1 xs).flatten = xs := by simp
    rw [e2] at h
    exact pe H cs _ _ s (.tup e r) h
  · refine .inr ⟨a, k, vs, rfl, rfl, ex_t pur_le e, fun z => hne ?_, by omega, by omega, by rw [r.length]; exact h3, fun p hp => ?_⟩
    · have := r.length
      rw [z] at this
      exact List.eq_nil_of_length_eq_zero this.symm
    · rw [show ((k : Int)).toNat = k by omega]
      obtain ⟨s2, e2⟩ := s.new (o := .tup (List.replicate k vs).flatten) hp
      exact pe _ cs _ _ s2 (.tup (SqT.of e2) ((r.rep k).mono s2.gr)) h
theorem d_rep (ha : DE X W a wa) (hb : DE X W b wb) : DE X W (.BinOp a .Mult b pos) (wOp oRep wa wb) := d_op op_rep adq_rep ha hb
theorem r_rep {xs : List D} {k : Nat} {cs : Cs} {P : DP} (hne : xs ≠ []) (h1 : 1 ≤ k) (h2 : k ≤ 1000) (h3 : xs.length ≤ 1000) (h : P (.tup (List.replicate k xs).flatten) cs) : oRep (.tup xs) (.int (k : Int)) cs P := ⟨xs, k, rfl, rfl, hne, h1, h2, h3, h⟩
theorem rep_one (d : D) : ∀ k : Nat, (List.replicate k [d]).flatten = List.replicate k d
  | 0 => rfl
  | k + 1 => by rw [List.replicate_succ, List.flatten_cons, rep_one d k]; rfl
end
end DL

/-! DLO: sorted(d) of a dict whose keys are pairs of ints; more methods of dicts. -/
namespace DL
open PySem PySem.Spec PyProof.Rows L2
section
variable {X : Cx}
/-- pairs of a key and its tuple -/
def KeyAt (H : Hp) (z : List Key × Addr) : Prop := H z.2 = some (.tup (z.1.map kV))
theorem keys_at {H : Hp} {es : Array DictEntry} : ∀ (kvs : List (List Key × V)) (k0 : Nat), (∀ (i : Nat) (k : List Key) (v : V), kvs[i]? = some (k, v) → ∃ (en : DictEntry) (q : Addr), es[k0 + i]? = some en ∧ en.key = .ref q ∧ H q = some (.tup (k.map kV))) →
    ∃ zs : List (List Key × Addr), zs.map (·.1) = kvs.map (·.1) ∧ (∀ z ∈ zs, KeyAt H z) ∧ ∀ (i : Nat) (z : List Key × Addr), zs[i]? = some z → ∃ en, es[k0 + i]? = some en ∧ en.key = .ref z.2
  | [], k0, _ => ⟨[], rfl, fun _ h => (nomatch h), fun i z h => by simp at h⟩
  | (k, v) :: r, k0, h => by
    obtain ⟨en, q, e1, e2, e3⟩ := h 0 k v rfl
    obtain ⟨zs, h1, h2, h3⟩ := keys_at r (k0 + 1) fun i k v e => by
      have := h (i + 1) k v (by simpa using e)
      rw [show k0 + (i + 1) = k0 + 1 + i by omega] at this
      exact this
    refine ⟨(k, q) :: zs, by rw [List.map_cons, List.map_cons, h1], fun z hz => ?_, fun i z hz => ?_⟩
    · rcases List.mem_cons.mp hz with e | e
      · rw [e]; exact e3
      · exact h2 z e
    · cases i with
      | zero =>
        simp at hz
        rw [← hz]
        exact ⟨en, by simpa using e1, e2⟩
      | succ i =>
        have := h3 i z (by simpa using hz)
        rw [show k0 + 1 + i = k0 + (i + 1) by omega] at this
        exact this
def rSortK : List V → Hp → VK → Prop := fun xs H Q => ∃ a o kvs, xs = [.ref a] ∧ H a = some (.frz o (.dT kvs)) ∧ kvs.length ≤ 100000 ∧ (∀ p ∈ kvs, ∃ i j : Int, p.1 = [.inl i, .inl j]) ∧
  ∀ (zs : List (List Key × Addr)) (p : Addr), (zs.map (·.1)).Perm (kvs.map (·.1)) → (∀ z ∈ zs, KeyAt H z) → H p = none → Q (.ref p) (upd H p (.lst (zs.map fun z => V.ref z.2)))
theorem refs_vals : ∀ (zs : List (List Key × Addr)), Vals (zs.map fun z => V.ref z.2) (zs.map fun z => Value.ref z.2)
  | [] => .nil
  | z :: zs => .cons rfl (refs_vals zs)
theorem cr_sortK (hcalm : X.calm = true) : CallR X (.builtin "sorted") rSortK := by
  intro pins s σ H xs us Q I r q
  obtain ⟨a, o, kvs, rfl, hd, hlen, hpair, q⟩ := q
  obtain ⟨u, rfl, rx⟩ := vals1 r
  cases rx
  obtain ⟨lo, hgo, hx, es, ep, hdt, hsz, ent⟩ := I.frzT hd
  obtain ⟨zs, z1, z2, z3⟩ := keys_at (es := es) kvs 0 (by simpa using ent)
  have zl : zs.length = kvs.length := by have := congrArg List.length z1; simpa using this
  have raw : s.heap.DictRaw a es ep := ⟨o, hgo, hx, hdt⟩
  refine Calls.call_function_entry kind_sorted plain_sorted entry_sorted (args_sorted1 _) ?_
  unfold Builtin.«sorted»
  refine wpAny_bind (m := checkCount "sorted" 1 1 _) (wpAny_pure ?_)
  have n16 : es.size ≤ sizeLine := by rw [hsz]; exact Nat.le_trans hlen (by decide)
  refine wpAny_bind (PySem.W.kdu_collect (A := X.A.in1) (KdlSrc.rawDict lo) (I.ok.hd hcalm) raw n16 fun h' tk acc hk hacc => ?_)
  have hacc2 : acc.toList = zs.map fun z => Value.ref z.2 := by
    refine List.ext_getElem? fun i => ?_
    rw [List.getElem?_map, Array.getElem?_toList]
    by_cases hi : i < zs.length
    · obtain ⟨en, e1, e2⟩ := z3 i zs[i] (List.getElem?_eq_getElem hi)
      rw [Nat.zero_add] at e1
      have hi2 : i < acc.size := by rw [hacc.1, hsz, ← zl]; exact hi
      obtain ⟨hi3, e3⟩ := hacc.2 i acc[i] (Array.getElem?_eq_getElem hi2)
      rw [List.getElem?_eq_getElem hi, Array.getElem?_eq_getElem hi2, e3]
      have : es[i] = en := by rw [Array.getElem?_eq_getElem hi3] at e1; exact Option.some.inj e1
      rw [this, e2]; rfl
    · rw [List.getElem?_eq_none (by omega), Array.getElem?_eq_none (by rw [hacc.1, hsz, ← zl]; omega)]; rfl
  have I1 : Inv X pins σ H { s with heap := h', toks := tk } := I.kept hk
  have hal : acc.toList.length ≤ sizeLine := by rw [hacc2, List.length_map, zl]; exact Nat.le_trans hlen (by decide)
  refine wpAny_bind (wpAny_newList ?_ hal)
  have hoL : (h'.push (seqObj "list" acc.toList.toArray 0)).get? h'.objs.size = some (seqObj "list" acc.toList.toArray 0) := Heap.get?_push_size _ rfl
  show wpAny _ _ _ _ _ { s with heap := h'.push (seqObj "list" acc.toList.toArray 0), toks := tk }
  have pairs : ∀ v ∈ acc.toList, ∃ x y, Srt.IsPair (h'.push (seqObj "list" acc.toList.toArray 0)) v x y := fun v hv => by
    rw [hacc2] at hv
    obtain ⟨z, hz, rfl⟩ := List.mem_map.mp hv
    have hm : z.1 ∈ kvs.map (·.1) := by rw [← z1]; exact List.mem_map.mpr ⟨z, hz, rfl⟩
    obtain ⟨pz, hpz, ez⟩ := List.mem_map.mp hm
    obtain ⟨i, j, eij⟩ := hpair pz hpz
    have ez' : pz.1 = z.1 := ez
    have hz2 : H z.2 = some (.tup [.int i, .int j]) := by
      have := z2 z hz
      unfold KeyAt at this
      rw [← ez', eij] at this
      exact this
    obtain ⟨_, its, rv, ob, h1, h2, n, h3⟩ := I1.hok z.2 _ hz2
    obtain ⟨u1, u2, ei, ⟨t1, e1⟩, t2, e2⟩ := vals2 rv
    subst ei e1 e2
    exact ⟨i, j, z.2, ob, t1, t2, n, rfl, Heap.get?_push_of_some _ h1, h2, h3⟩
  refine wpAny_bind (wpAny_holding (wpAny_call_entry slot_list_sort ⟨_, hoL, rfl⟩ entry_list_sort
    (Srt.list_sort_any (s := { s with heap := h'.push (seqObj "list" acc.toList.toArray 0), toks := tk }) hoL hal (fun h2 => Srt.pairs_sortable (by omega) pairs fun ob hob => ?_) fun out hp => ⟨_, rfl, ?_⟩) (args_list_sort _)))
  · have e : ob = seqObj "list" acc.toList.toArray 0 := Option.some.inj (hob.symm.trans hoL)
    rw [e]; exact fun z => absurd (Value.type.inj z) (by decide)
  rw [hacc2] at hp
  obtain ⟨zs', p1, p2⟩ := L2.perm_lift (fun z : List Key × Addr => Value.ref z.2) hp zs rfl
  obtain ⟨e', he'⟩ := sortedHeap_at (vs := acc.toList) (out := out.toArray) hoL
  have hlen2 : (zs'.map fun z => V.ref z.2).length ≤ sizeLine := by rw [List.length_map, p1.length_eq, zl]; exact Nat.le_trans hlen (by decide)
  refine wpAny_pure ⟨_, rfl, .ref h'.objs.size, upd H h'.objs.size (.lst (zs'.map fun z => V.ref z.2)), I1.laid (t' := tk) (fun b u e => ?_) (Nat.le_refl _)
    (show ObjOk X.prog X.w _ _ _ (.lst (zs'.map fun z => V.ref z.2)) from ⟨hlen2, out, e', by rw [← p2]; exact refs_vals zs', he'⟩), rfl, q zs' _ ?_ (fun z hz => z2 z (p1.mem_iff.mp hz)) (I1.hok.fresh (Nat.le_refl _))⟩
  · have hb : b < h'.objs.size := Heap.lt_size e
    rw [sortedHeap_old (Nat.ne_of_lt hb) (by rw [size_push']; exact Nat.lt_succ_of_lt hb)]
    exact Heap.get?_push_of_some _ e
  · rw [← z1]; exact p1.map _
end
/-- sorted(d), d a dict of pairs of ints that is data: some order -/
def oSortT : DOn := fun ds cs P => ∃ kvs : List (List Key × D), ds = [.dct kvs] ∧ kvs.length ≤ 100000 ∧ (∀ p ∈ kvs, ∃ i j : Int, p.1 = [.inl i, .inl j]) ∧ ∀ ys : List (List Key), ys.Perm (kvs.map (·.1)) → P (.lst (ys.map fun k => D.tup (k.map kD))) cs
section
variable {K : PySem.W.Frag}
theorem adq_sortT : AdqN K rSortK oSortT := fun F cs H xs ds P Q s r ho pe => by
  obtain ⟨kvs, rfl, hl, hp, h⟩ := ho
  cases r with
  | cons r1 r2 =>
  cases r2
  cases r1 with
  | @dct a o vvs _ ea rt =>
  have hk := rt.rg.keys
  have hlen := rt.rg.length
  refine ⟨a, o, vvs, rfl, pur_le _ _ ea, by rw [hlen]; exact hl, fun p hp' => ?_, fun zs p hpm hz hn => ?_⟩
  · have hm : p.1 ∈ kvs.map (·.1) := by rw [← hk]; exact List.mem_map.mpr ⟨p, hp', rfl⟩
    obtain ⟨p', h1, h2⟩ := List.mem_map.mp hm
    obtain ⟨i, j, e⟩ := hp p' h1
    exact ⟨i, j, by rw [← e]; exact h2.symm⟩
  · rw [hk] at hpm
    obtain ⟨s2, e2⟩ := s.new (o := .lst (zs.map fun z => V.ref z.2)) hn
    refine pe _ cs _ _ s2 (.lst (SqL.of e2) ?_) (h (zs.map (·.1)) hpm)
    have : ∀ l : List (List Key × Addr), (∀ z ∈ l, KeyAt H z) → RepL K (pur F cs (upd H p (.lst (zs.map fun z => V.ref z.2)))) (l.map fun z => V.ref z.2) ((l.map (·.1)).map fun k => D.tup (k.map kD)) := by
      intro l
      induction l with
      | nil => intro _; exact .nil
      | cons z l ih =>
        intro hl
        refine .cons (.tup (SqT.of (s2.gr _ _ (tup_pur s (hl z (List.mem_cons_self ..))))) (ksD_rep z.1)) (ih fun y hy => hl y (List.mem_cons_of_mem _ hy))
    exact this zs hz
end
/-! ### sorted(d), keys ints or texts -/
section
variable {X : Cx} {W : WX} {K : PySem.W.Frag} {σ : L2.St} {H : Hp} {pos : Pos} {a b e : Expr} {es : List Expr} {wa wb we : DL.WE} {w : WA} {apos cpos : Pos}
def rSortDI : List V → Hp → VK → Prop := fun xs H Q => ∃ (a : Addr) (kvs : List (Key × V)) (ks : List Int), xs = [.ref a] ∧ Rd H a (.dK kvs) ∧ kvs.map (·.1) = ks.map Sum.inl ∧ ks.length < 64 ∧
    ∀ (ys : List Int) (p : Addr), ys.Perm ks → ys.Pairwise (· ≤ ·) → H p = none → Q (.ref p) (upd H p (.lst (ys.map V.int)))
theorem cr_sortDI (hc : X.calm = true) : CallR X (.builtin "sorted") rSortDI := call_sortedDI hc
def oSortI : DOn := fun ds cs P => ∃ (d : D) (kvs : List (Key × D)) (ks : List Int), ds = [d] ∧ ddAt d cs = some (.inl kvs) ∧ kvs.map (·.1) = ks.map Sum.inl ∧ ks.length < 64 ∧ ∀ ys : List Int, ys.Perm ks → ys.Pairwise (· ≤ ·) → P (.lst (ys.map D.int)) cs
def oSortIM : DOn := fun ds cs P => ∃ (d : D) (kvs : List (Key × D)) (ks : List Int), ds = [d] ∧ ddAt d cs = some (.inl kvs) ∧ kvs.map (·.1) = ks.map Sum.inl ∧ ks.length < 64 ∧ ∀ ys : List Int, ys.Perm ks → ys.Pairwise (· ≤ ·) → ∀ p, p ∉ adr cs → P (.opq (.ref p)) ((p, .lst (ys.map D.int)) :: cs)
theorem adq_sortI : AdqN K rSortDI oSortI := fun F cs H xs ds P Q s r ho pe => by
  obtain ⟨d, kvs, ks, rfl, hd, hk, hl, h⟩ := ho
  cases r with
  | cons r1 r2 =>
  cases r2
  obtain ⟨p, vs, rfl, h1, h2⟩ := dd_k s r1 hd
  refine ⟨p, vs, ks, rfl, h1, by rw [h2.keys]; exact hk, hl, fun ys q hp hs hq => ?_⟩
  obtain ⟨s2, e2⟩ := s.new (o := .lst (ys.map V.int)) hq
  exact pe _ cs _ _ s2 (.lst (SqL.of e2) (RepL.ofInts ys)) (h ys hp hs)
theorem adq_sortIM : AdqN K rSortDI oSortIM := fun F cs H xs ds P Q s r ho pe => by
  obtain ⟨d, kvs, ks, rfl, hd, hk, hl, h⟩ := ho
  cases r with
  | cons r1 r2 =>
  cases r2
  obtain ⟨p, vs, rfl, h1, h2⟩ := dd_k s r1 hd
  refine ⟨p, vs, ks, rfl, h1, by rw [h2.keys]; exact hk, hl, fun ys q hp hs hq => ?_⟩
  have s2 := s.newM (m := .lst (ys.map D.int)) (o := .lst (ys.map V.int)) hq (RepL.ofInts ys)
  exact pe _ _ _ _ s2 (.opq _) (h ys hp hs q (s.notin hq).2)
/-! ### methods of dicts -/
def isDM (d : D) (cs : Cs) : Prop := match d with
  | .opq (.ref p) => (match look p cs with
    | some (.dic _) => True
    | some (.dct _) => True
    | _ => False)
  | _ => False
theorem isDM_ty {F : Hp} {cs : Cs} {x : V} {dx : D} (s : Sta K F (pur F cs H) cs H) (r : Rep K (pur F cs H) x dx) (h : isDM dx cs) : tyV K "dict" x H := by
  unfold isDM at h
  split at h
  · split at h
    · rename_i e
      obtain ⟨vs, e2, _⟩ := dic_at s e
      cases r
      exact .inr (.inr (.inl ⟨rfl, .inl ⟨_, e2⟩⟩))
    · rename_i e
      obtain ⟨vs, e2, _⟩ := dct_at s e
      cases r
      exact .inr (.inr (.inl ⟨rfl, .inr ⟨_, e2⟩⟩))
    · exact h.elim
  · exact h.elim
def wMtD (o : DMt) (wo : DL.WE) (w : WA) : DL.WE := fun ρ cs P Z => wo ρ cs (fun x cs1 => isDM x cs1 ∧ w ρ cs1 (fun ds cs2 => o x ds cs2 P) Z) Z
def mergeD (kvs more : List (Key × D)) : List (Key × D) := more.foldl (fun acc kv => putD acc kv.1 kv.2) kvs
def rUpd : V → List V → Hp → VK → Prop := fun x xs H Q => ∃ p q kvs more, x = .ref p ∧ xs = [.ref q] ∧ H p = some (.dK kvs) ∧ Rd H q (.dK more) ∧ p ≠ q ∧ kvs.length + more.length ≤ sizeLine ∧ Q .non (upd H p (.dK (mergeK kvs more)))
theorem mt_upd : MtR X "dict.update" rUpd := by
  intro pins s σ H x xs v us Q I rx rs h
  obtain ⟨p, q, kvs, more, rfl, rfl, hp, hq, hne, hz, h⟩ := h
  obtain ⟨u, rfl, ru⟩ := vals1 rs
  cases rx
  cases ru
  obtain ⟨z1, hd, vs, rel, dd⟩ := dk_of I.hok hp
  obtain ⟨z2, hd2, vs2, rel2, dd2⟩ := dk_rd I.hok hq
  refine call_meetsIn PySem.F.slot_dict_update dd.typeIs PySem.F.entry_dict_update (PySem.F.args_dict_update_2 _ _) (meets_dict_update (mixKind X.prog X.w) p q hne hd2) ⟨vs, vs2, dd, dd2, by rw [← rel.length, ← rel2.length]; exact hz, fun h' dd' _ hs => ⟨.non, _, ?_, rfl, h⟩⟩
  have he : ∃ o, h'.get? p = some o := let ⟨o, _, _, ho, _⟩ := dd'; ⟨o, ho⟩
  exact d_write (t' := s.toks) I (by rw [hp]; exact True.intro) hs he (dk_new (Nat.le_trans (length_mergeK more kvs) hz) hd (rel2.merge rel) dd')
theorem RG.merge {G : Hp} {more : List (Key × V)} {dm : List (Key × D)} (h : RG K G more dm) : ∀ {xs : List (Key × V)} {ds : List (Key × D)}, RG K G xs ds → RG K G (mergeK xs more) (mergeD ds dm) := by
  induction h with
  | nil => intro xs ds h; exact h
  | cons h _ ih => intro xs ds h0; exact ih (h0.put _ h)
def oUpd : DMt := fun x ds cs P => ∃ p kvs more, x = .opq (.ref p) ∧ look p cs = some (.dic kvs) ∧ ds = [.dic more] ∧ kvs.length + more.length ≤ 100000 ∧ P .non (put p (.dic (mergeD kvs more)) cs)
theorem adq_upd : AdqM K "dict" rUpd oUpd := fun F cs H x xs dx ds P Q s rx rl ho pe => by
  obtain ⟨p, kvs, more, rfl, hl, rfl, hz, h⟩ := ho
  obtain ⟨vs, e, rv⟩ := dic_at s hl
  cases rx
  cases rl with
  | cons r1 r2 =>
  cases r2
  cases r1 with
  | @dic q o ms _ eq rm =>
  have hp : p ∈ adr cs := List.mem_map.mpr ⟨(p, _), look_mem hl, rfl⟩
  have s4 := s.put hl (m' := .dic (mergeD kvs more)) (o' := .dK (mergeK vs ms)) (rm.rg.merge rv).rk
  refine ⟨p, q, vs, ms, rfl, rfl, e, .inr ⟨o, pur_le _ _ eq⟩, fun z => ?_, ?_, pe _ _ _ _ s4 .non h⟩
  · rw [← z, pur_at_no hp] at eq; cases eq
  · rw [rv.length, rm.rg.length]; exact Nat.le_trans hz (by decide)
theorem d_update (ho : DE X W a wa) (ha : DA X W [e] w) (hbase : attributeBase a "update" X.env (eval a X.env) = eval a X.env := by rfl)
    (hfew : ((backTo cpos (starEach [e] X.env)).all (fun x => !x.1) && (backToKw cpos (keywordEach [] X.env)).all (fun x => x.1.isSome)
      && decide ([e].length + ([] : List Keyword).length + (if ([] : List Keyword).isEmpty then 0 else 1) < 30)) = true := by rfl)
    (hline : (apos.endLine == cpos.line) = true := by rfl) (hs : starEach [e] X.env = (false, eval e X.env) :: starEach [] X.env := by rfl) (hplain : (backTo cpos (starEach [] X.env)).any (·.1) = false := by rfl) :
    DE X W (.Call (.Attribute a "update" apos) [e] [] cpos) (wMtD oUpd wa w) := PE.imp (pe_bm PySem.F.plainAttrs_dict PySem.F.slot_dict_update PySem.F.type_dict_update mt_upd ho ha hbase hfew hline hs hplain) fun σ H Q h => by
  obtain ⟨F, cs, ρ, P, Z, s, re, hw, pe, px⟩ := h
  refine ⟨F, cs, ρ, _, Z, s, re, hw, fun H1 cs1 x dx s1 r1 h1 => ⟨isDM_ty s1.self r1 h1.1, ?_⟩, px⟩
  refine ⟨F, cs1, ρ, _, Z, s1.self, re.mono s1.gr, h1.2, fun H2 cs2 vs ds s2 r2 l2 h2 => ?_, px.le s1.gr⟩
  exact adq_upd F cs2 H2 x vs dx ds P Q s2.self (r1.mono s2.gr) r2 h2 (pe.le (s1.gr.trans s2.gr))
/-- d.get(k, x) -/
def wGet2 (wo wk wz : DL.WE) : DL.WE := fun ρ cs P Z => wo ρ cs (fun x cs1 => (∃ dd, ddAt x cs1 = some dd) ∧ wk ρ cs1 (fun k cs2 => wz ρ cs2 (fun z cs3 => ∃ o, getV x k cs3 = some o ∧ P (o.getD z) cs3) Z) Z) Z
theorem dd_isD {F : Hp} {cs : Cs} {x : V} {dx : D} {dd : DD} (s : Sta K F (pur F cs H) cs H) (r : Rep K (pur F cs H) x dx) (h : ddAt dx cs = some dd) : ∃ p, x = .ref p ∧ IsD H p := by
  cases dd with
  | inl kvs =>
    obtain ⟨p, vs, rfl, h1, _⟩ := dd_k s r h
    exact ⟨p, rfl, .inl ⟨_, h1⟩⟩
  | inr kvs =>
    obtain ⟨p, vs, rfl, h1, _⟩ := dd_t s r h
    exact ⟨p, rfl, .inr ⟨_, h1⟩⟩
def tGet2X (K : PySem.W.Frag) (td ty tx : TE) : TE := fun σ H Q => td σ H fun x H1 => ∃ p, x = .ref p ∧ IsD H1 p ∧ ty σ H1 fun y H2 => tx σ H2 fun z H3 => ∃ o, LookX K H3 p y o ∧ Q (o.getD z) H3
theorem pe_get2X {f : Expr} {td ty tx : TE} (hu : X.A.units + 64 < cLine) (ho : PE X a td) (he : PE X e ty) (hf : PE X f tx) (m : M2 X a "get" apos e f cpos) : PE X (.Call (.Attribute a "get" apos) [e, f] [] cpos) (tGet2X X.K td ty tx) := by
  refine ⟨fun pins s σ H Q I h => ?_⟩
  refine wpAny_Call_method m.base m.few m.line PySem.F.plainAttrs_dict PySem.F.slot_dict_get PySem.F.type_dict_get (thn (ho.run pins s σ H _ I h) fun u s1 ⟨x, H1, I1, rx, p, ex, d, q1⟩ => ?_)
  subst ex
  obtain rfl : u = Value.ref p := rx
  obtain ⟨t1, t2, _⟩ := isD_at I1 d
  refine ⟨t1, t2, ?_⟩
  rw [m.trees]
  refine Calls.callWith_builtin rfl (Calls.evalArgs_plain (Calls.spliced_cons (thn (he.run pins s1 σ H1 _ I1 q1) fun iv s2 ⟨y, H2, I2, ry, q2⟩ => Calls.spliced_cons (thn (hf.run pins s2 σ H2 _ I2 q2) fun fv s3 ⟨z, H3, I3, rz, ov, g, q3⟩ => Calls.spliced_nil ?_))))
  exact x_get2 (by omega) I3 g ry rz fun w' s4 I4 rw' => ⟨_, H3, I4, rw', q3⟩
theorem d_get2D {f : Expr} {wk wz : DL.WE} (hu : X.A.units + 64 < cLine) (ho : DE X W a wa) (he : DE X W e wk) (hf : DE X W f wz) (m : M2 X a "get" apos e f cpos := by exact ⟨rfl, rfl, rfl, rfl⟩) : DE X W (.Call (.Attribute a "get" apos) [e, f] [] cpos) (wGet2 wa wk wz) :=
  PE.imp (pe_get2X hu ho he hf m) fun σ H Q h => by
    obtain ⟨F, cs, ρ, P, Z, s, re, hw, pe, px⟩ := h
    refine ⟨F, cs, ρ, _, Z, s, re, hw, fun H1 cs1 x dx s1 r1 h1 => ?_, px⟩
    obtain ⟨⟨dd, hdd⟩, h1⟩ := h1
    obtain ⟨p, rfl, hD⟩ := dd_isD s1.self r1 hdd
    refine ⟨p, rfl, hD, F, cs1, ρ, _, Z, s1.self, re.mono s1.gr, h1, fun H2 cs2 y dy s2 r2 h2 => ?_, px.le s1.gr⟩
    refine ⟨F, cs2, ρ, _, Z, s2.self, re.mono (s1.gr.trans s2.gr), h2, fun H3 cs3 z dz s3 r3 h3 => ?_, px.le (s1.gr.trans s2.gr)⟩
    obtain ⟨o, ho, h4⟩ := h3
    obtain ⟨p', r, e', g, rq⟩ := getV_ok s3.self (r1.mono (s2.gr.trans s3.gr)) (r2.mono s3.gr) ho
    cases e'
    exact ⟨r, g, pe H3 cs3 _ _ (s3.from_ (s1.gr.trans s2.gr)) (rq.getD r3) h4⟩
end
section
variable {ρ : DL.Env} {cs : Cs} {P : DP} {Z : XZ} {wo wk wz : DL.WE} {w : WA} {p : Addr} {kvs more : List (Key × D)}
theorem r_mtD {o : DMt} (h : wo ρ cs (fun x cs1 => isDM x cs1 ∧ w ρ cs1 (fun ds cs2 => o x ds cs2 P) Z) Z) : wMtD o wo w ρ cs P Z := h
theorem r_isDM (hl : look p cs = some (.dic kvs)) {R : Prop} (h : R) : isDM (.opq (.ref p)) cs ∧ R := ⟨by unfold isDM; simp only [hl], h⟩
theorem r_updH (hz : kvs.length + more.length ≤ 100000) (h : P .non ((p, .dic (mergeD kvs more)) :: cs)) : oUpd (.opq (.ref p)) [.dic more] ((p, .dic kvs) :: cs) P := ⟨p, kvs, more, rfl, by simp [look], rfl, hz, by rw [put_hd]; exact h⟩
theorem r_get2 (h : wo ρ cs (fun x cs1 => (∃ dd, ddAt x cs1 = some dd) ∧ wk ρ cs1 (fun k cs2 => wz ρ cs2 (fun z cs3 => ∃ o, getV x k cs3 = some o ∧ P (o.getD z) cs3) Z) Z) Z) : wGet2 wo wk wz ρ cs P Z := h
theorem r_ddK {R : Prop} (h : R) : (∃ dd, ddAt (.dic kvs) cs = some dd) ∧ R := ⟨⟨.inl kvs, rfl⟩, h⟩
theorem r_ddM (hl : look p cs = some (.dic kvs)) {R : Prop} (h : R) : (∃ dd, ddAt (.opq (.ref p)) cs = some dd) ∧ R := ⟨⟨.inl kvs, by simp [ddAt, hl]⟩, h⟩
theorem r_gvKI {i : Int} {R : Option D → Prop} (h : R (lk kvs (.inl i))) : ∃ o, getV (.dic kvs) (.int i) cs = some o ∧ R o := ⟨_, by simp [getV, ddAt, kOf], h⟩
theorem r_gvKS {x : Str} {R : Option D → Prop} (h : R (lk kvs (.inr x))) : ∃ o, getV (.dic kvs) (.str x) cs = some o ∧ R o := ⟨_, by simp [getV, ddAt, kOf], h⟩
theorem r_gvMI {i : Int} {R : Option D → Prop} (hl : look p cs = some (.dic kvs)) (h : R (lk kvs (.inl i))) : ∃ o, getV (.opq (.ref p)) (.int i) cs = some o ∧ R o := ⟨_, by simp [getV, ddAt, hl, kOf], h⟩
theorem r_gvMS {x : Str} {R : Option D → Prop} (hl : look p cs = some (.dic kvs)) (h : R (lk kvs (.inr x))) : ∃ o, getV (.opq (.ref p)) (.str x) cs = some o ∧ R o := ⟨_, by simp [getV, ddAt, hl, kOf], h⟩
theorem mergeD_len : ∀ (more kvs : List (Key × D)), (mergeD kvs more).length ≤ kvs.length + more.length
  | [], kvs => Nat.le_refl _
  | q :: r, kvs => by
    have h1 := mergeD_len r (putD kvs q.1 q.2)
    have h2 := putD_len kvs q.1 q.2
    show (mergeD (putD kvs q.1 q.2) r).length ≤ _
    rw [List.length_cons]; omega
theorem lk_merge (k : Key) : ∀ (more kvs : List (Key × D)), (more.map (·.1)).Nodup → lk (mergeD kvs more) k = (lk more k).or (lk kvs k)
  | [], kvs, _ => rfl
  | q :: r, kvs, nd => by
    rw [List.map_cons] at nd
    obtain ⟨n1, n2⟩ := List.nodup_cons.mp nd
    show lk (mergeD (putD kvs q.1 q.2) r) k = _
    rw [lk_merge k r _ n2, look_putD]
    by_cases e : k = q.1
    · have hn : lk r k = none := look_none_of fun z hz hk => n1 (by rw [← e, ← hk]; exact List.mem_map.mpr ⟨z, hz, rfl⟩)
      rw [hn, if_pos e, look_pos e.symm]; rfl
    · rw [if_neg e, look_neg (fun z => e z.symm)]
theorem putD_keys {kvs : List (Key × D)} {k : Key} {v : D} : (putD kvs k v).map (·.1) = if (lk kvs k).isSome = true then kvs.map (·.1) else kvs.map (·.1) ++ [k] := by
  unfold putD
  split
  · rw [List.map_map]; rfl
  · rw [List.map_append]; rfl
end
end DL

/-! DLZ: beginnings that are come to, numbers that shut (plain mathematics). -/
namespace DL
open PySem PySem.Spec PyProof.Rows L2
theorem one_le_num {r : Rat} (h : 1 ≤ r) : ¬ r.num < (r.den : Int) := fun z => by
  have : r < 1 := by
    rw [Rat.lt_iff]
    simpa using z
  exact Rat.not_lt.mpr h this
/-- e is come to by rows of shapes below r -/
inductive Rch (sh : Nat → Nat → Rat) (n : Nat) (r : Rat) : Nat → Prop
  | zero : Rch sh n r 0
  | step {f e : Nat} : Rch sh n r f → f < e → e ≤ n → sh f e < r → Rch sh n r e
section
variable {sh : Nat → Nat → Rat} {n : Nat} {r : Rat}
theorem Rch.le {e : Nat} (h : Rch sh n r e) : e ≤ n := by
  cases h with
  | zero => exact Nat.zero_le _
  | step _ _ h _ => exact h
theorem rch_iff {e : Nat} : Rch sh n r e ↔ e = 0 ∨ (e ≤ n ∧ ∃ f, f < e ∧ Rch sh n r f ∧ sh f e < r) := by
  constructor
  · intro h
    cases h with
    | zero => exact .inl rfl
    | step h1 h2 h3 h4 => exact .inr ⟨h3, _, h2, h1, h4⟩
  · rintro (rfl | ⟨h1, f, h2, h3, h4⟩)
    · exact .zero
    · exact .step h3 h2 h1 h4
open Classical in
/-- the beginnings that are come to, below m -/
noncomputable def rchL (sh : Nat → Nat → Rat) (n : Nat) (r : Rat) (m : Nat) : List Nat := (List.range m).filter fun f => decide (Rch sh n r f)
open Classical in
theorem mem_rchL {m f : Nat} : f ∈ rchL sh n r m ↔ f < m ∧ Rch sh n r f := by
  unfold rchL
  rw [List.mem_filter, List.mem_range, decide_eq_true_iff]
open Classical in
theorem rchL_succ {m : Nat} (h : Rch sh n r m) : rchL sh n r (m + 1) = rchL sh n r m ++ [m] := by
  unfold rchL
  rw [List.range_succ, List.filter_append, List.filter_cons_of_pos (by rw [decide_eq_true_iff]; exact h), List.filter_nil]
open Classical in
theorem rchL_same {m : Nat} (h : ¬ Rch sh n r m) : rchL sh n r (m + 1) = rchL sh n r m := by
  unfold rchL
  rw [List.range_succ, List.filter_append, List.filter_cons_of_neg (by rw [decide_eq_true_iff]; exact h), List.filter_nil, List.append_nil]
theorem rchL_len (m : Nat) : (rchL sh n r m).length ≤ m := by
  unfold rchL
  exact Nat.le_trans (List.length_filter_le _ _) (by rw [List.length_range]; exact Nat.le_refl _)
theorem rchL_nodup (m : Nat) : (rchL sh n r m).Nodup := List.Pairwise.filter _ List.nodup_range
theorem rchL_sorted (m : Nat) : (rchL sh n r m).Pairwise (· ≤ ·) := List.Pairwise.filter _ (List.Pairwise.imp (fun h => Nat.le_of_lt h) (List.pairwise_lt_range (n := m)))
end
abbrev natI (l : List Nat) : List Int := l.map fun z : Nat => (z : Int)
theorem natI_mem {l : List Nat} {i : Nat} : (i : Int) ∈ natI l ↔ i ∈ l := by
  constructor
  · intro h
    obtain ⟨j, hj, e⟩ := List.mem_map.mp h
    have : j = i := by omega
    rw [← this]; exact hj
  · intro h; exact List.mem_map.mpr ⟨i, h, rfl⟩
theorem natI_snoc (l : List Nat) (x : Nat) : natI (l ++ [x]) = natI l ++ [(x : Int)] := List.map_append ..
theorem one_le_divInt {a b : Int} (h0 : 0 < b) (h1 : b ≤ a) : 1 ≤ Rat.divInt a b := by
  rw [Rat.divInt_eq_div]
  have hb : (0 : Rat) < (b : Rat) := Rat.intCast_lt_intCast.mpr h0
  refine Rat.not_lt.mp fun z => ?_
  have := Rat.mul_lt_mul_of_pos_right z hb
  rw [Rat.div_mul_cancel (Rat.ne_of_gt hb), Rat.one_mul] at this
  exact Rat.not_lt.mpr (Rat.intCast_le_intCast.mpr h1) this
theorem natI_nodup {l : List Nat} (h : l.Nodup) : (natI l).Nodup := nodup_inj (fun x y e => by omega) h
theorem natI_sorted {l : List Nat} (h : l.Pairwise (· ≤ ·)) : (natI l).Pairwise (· ≤ ·) := by
  rw [List.pairwise_map]
  exact List.Pairwise.imp (fun h => by omega) h
theorem sorted_eq {l m : List Int} (hp : l.Perm m) (hl : l.Pairwise (· ≤ ·)) (hm : m.Pairwise (· ≤ ·)) : l = m :=
  hp.eq_of_pairwise (fun a b _ _ h1 h2 => by omega) hl hm
/-- a dict whose values are all True -/
def tkey (k : Nat) : Key × D := (.inl (k : Int), .bl true)
theorem tk_lk {ks : List Nat} {k : Nat} : (lk (ks.map tkey) (.inl (k : Int))).isSome = decide (k ∈ ks) := by
  induction ks with
  | nil => rfl
  | cons x xs ih =>
    rw [List.map_cons]
    by_cases e : x = k
    · rw [look_pos (p := tkey x) (by rw [e]; rfl), e]; simp
    · rw [look_neg (p := tkey x) (fun z => e (by have := Sum.inl.inj z; omega)), ih]
      simp [Ne.symm e]
theorem tk_put (ks : List Nat) (k : Nat) : putD (ks.map tkey) (.inl (k : Int)) (.bl true) = (if k ∈ ks then ks else ks ++ [k]).map tkey := by
  unfold putD
  rw [tk_lk]
  by_cases h : k ∈ ks
  · rw [if_pos (decide_eq_true h), if_pos h, List.map_map]
    refine List.map_congr_left fun x _ => ?_
    show (_, if (tkey x).1 = _ then _ else _) = _
    split <;> rfl
  · rw [if_neg (by rw [decide_eq_true_iff]; exact h), if_neg h, List.map_append]; rfl
theorem tk_merge : ∀ (l ks : List Nat), ks.Nodup → ∃ ks' : List Nat, mergeD (ks.map tkey) (l.map tkey) = ks'.map tkey ∧ ks'.Nodup ∧ ∀ x, x ∈ ks' ↔ x ∈ ks ∨ x ∈ l
  | [], ks, nd => ⟨ks, rfl, nd, fun x => by simp⟩
  | k :: l, ks, nd => by
    obtain ⟨ks', h1, h2, h3⟩ := tk_merge l (if k ∈ ks then ks else ks ++ [k]) (by
      split
      · exact nd
      · rename_i h
        rw [List.nodup_append]
        exact ⟨nd, by simp, fun a ha b hb => by rw [List.mem_singleton.mp hb]; exact fun z => h (by rw [← z]; exact ha)⟩)
    refine ⟨ks', ?_, h2, fun x => ?_⟩
    · rw [← h1, ← tk_put]; rfl
    · rw [h3 x, List.mem_cons]
      split
      · rename_i h
        constructor
        · rintro (q | q)
          · exact .inl q
          · exact .inr (.inr q)
        · rintro (q | q | q)
          · exact .inl q
          · rw [q]; exact .inl h
          · exact .inr q
      · rw [List.mem_append, List.mem_singleton]
        constructor
        · rintro ((q | q) | q)
          · exact .inl q
          · exact .inr (.inl q)
          · exact .inr (.inr q)
        · rintro (q | q | q)
          · exact .inl (.inl q)
          · exact .inl (.inr q)
          · exact .inr q
/-- numbers xs shut the bound r -/
def shutB (sh : Nat → Nat → Rat) (n : Nat) (r : Rat) (xs : List Int) : Bool :=
  decide ((0 : Int) ∈ xs) && !decide ((n : Int) ∈ xs) && (spots n).all fun p => !(decide ((p.1 : Int) ∈ xs) && !decide ((p.2 : Int) ∈ xs) && decide (sh p.1 p.2 < r))
section
variable {cs : Cs} {P : DP} {s : Int} {ss : List Int} {x : Str} {xs : List Str}
theorem r_inLI (h : P (.bl (decide (s ∈ ss))) cs) : oIn (.int s) (.lst (ss.map D.int)) cs P := .inr ⟨s, ss, rfl, .inr rfl, h⟩
theorem r_inTI (h : P (.bl (decide (s ∈ ss))) cs) : oIn (.int s) (.tup (ss.map D.int)) cs P := .inr ⟨s, ss, rfl, .inl rfl, h⟩
theorem r_niLI (h : P (.bl (!decide (s ∈ ss))) cs) : oNotIn (.int s) (.lst (ss.map D.int)) cs P := .inr ⟨s, ss, rfl, .inr rfl, h⟩
theorem r_niTI (h : P (.bl (!decide (s ∈ ss))) cs) : oNotIn (.int s) (.tup (ss.map D.int)) cs P := .inr ⟨s, ss, rfl, .inl rfl, h⟩
theorem r_inLS (h : P (.bl (decide (x ∈ xs))) cs) : oIn (.str x) (.lst (xs.map D.str)) cs P := .inl ⟨x, xs, rfl, .inr rfl, h⟩
theorem r_niLS (h : P (.bl (!decide (x ∈ xs))) cs) : oNotIn (.str x) (.lst (xs.map D.str)) cs P := .inl ⟨x, xs, rfl, .inr rfl, h⟩
end
theorem shutB_false0 {sh : Nat → Nat → Rat} {n : Nat} {r : Rat} {xs : List Int} (h : ¬ (0 : Int) ∈ xs) : shutB sh n r xs = false := by
  unfold shutB
  rw [decide_eq_false h]; rfl
theorem shutB_falsen {sh : Nat → Nat → Rat} {n : Nat} {r : Rat} {xs : List Int} (h : (n : Int) ∈ xs) : shutB sh n r xs = false := by
  unfold shutB
  rw [decide_eq_true h]; simp
theorem shutB_at {sh : Nat → Nat → Rat} {n : Nat} {r : Rat} {xs : List Int} {f e : Nat} (h1 : f < e) (h2 : e ≤ n) (h3 : (f : Int) ∈ xs) (h4 : ¬ (e : Int) ∈ xs) (h5 : sh f e < r) : shutB sh n r xs = false := by
  unfold shutB
  have : ((spots n).all fun p => !(decide ((p.1 : Int) ∈ xs) && !decide ((p.2 : Int) ∈ xs) && decide (sh p.1 p.2 < r))) = false := by
    rw [Bool.eq_false_iff]
    intro z
    have := List.all_eq_true.mp z (f, e) (mem_spots.mpr ⟨h1, h2⟩)
    simp only [decide_eq_true h3, decide_eq_false h4, decide_eq_true h5] at this
    cases this
  rw [this]; simp
theorem shutB_true {sh : Nat → Nat → Rat} {n : Nat} {r : Rat} {xs : List Int} (h0 : (0 : Int) ∈ xs) (hn : ¬ (n : Int) ∈ xs) (h : ∀ f e, f < e → e ≤ n → (f : Int) ∈ xs → ¬ (e : Int) ∈ xs → ¬ sh f e < r) : shutB sh n r xs = true := by
  unfold shutB
  rw [decide_eq_true h0, decide_eq_false hn]
  simp only [Bool.not_false, Bool.and_true, Bool.true_and]
  rw [List.all_eq_true]
  rintro ⟨f, e⟩ hp
  obtain ⟨h1, h2⟩ := mem_spots.mp hp
  simp only at h1 h2 ⊢
  by_cases q1 : (f : Int) ∈ xs
  · by_cases q2 : (e : Int) ∈ xs
    · simp [q2]
    · simp [q1, q2, h f e h1 h2 q1 q2]
  · simp [q1]
theorem all_filter {α : Type} (p : α → Bool) : ∀ l : List α, (l.filter p).isEmpty = l.all fun x => !p x
  | [] => rfl
  | x :: l => by
    rw [List.all_cons]
    cases h : p x with
    | true => rw [List.filter_cons_of_pos h]; rfl
    | false => rw [List.filter_cons_of_neg (by rw [h]; decide), all_filter p l]; rfl
theorem shutB_filter {sh : Nat → Nat → Rat} {n : Nat} {r : Rat} {xs : List Int} (h0 : (0 : Int) ∈ xs) (hn : ¬ (n : Int) ∈ xs) :
    shutB sh n r xs = ((spots n).filter fun p => decide ((p.1 : Int) ∈ xs) && !decide ((p.2 : Int) ∈ xs) && decide (sh p.1 p.2 < r)).isEmpty := by
  unfold shutB
  rw [decide_eq_true h0, decide_eq_false hn, all_filter]; rfl
theorem r_eqNil {ns : List Int} {cs : Cs} {P : DP} (hl : ns.length ≤ 100000) (h : P (.bl ns.isEmpty) cs) : oEq (.lst (ns.map D.int)) (.lst []) cs P := ⟨plD_ints ns hl, rfl, by
  have e : eqD (.lst (ns.map D.int)) (.lst []) = ns.isEmpty := by
    unfold eqD
    cases ns <;> simp [eqL]
  rw [e]; exact h⟩
theorem r_neNil {ns : List Int} {cs : Cs} {P : DP} (hl : ns.length ≤ 100000) (h : P (.bl (!ns.isEmpty)) cs) : oNe (.lst (ns.map D.int)) (.lst []) cs P := ⟨plD_ints ns hl, rfl, by
  have e : eqD (.lst (ns.map D.int)) (.lst []) = ns.isEmpty := by
    unfold eqD
    cases ns <;> simp [eqL]
  rw [e]; exact h⟩
def r6 : Rat := ⟨1, 1000000, by decide, by decide⟩
theorem r6_pos : 0 ≤ r6 := by decide
theorem keys_pairs {b : Bx} {dn : Bool} {ws : List Int} : ∀ p ∈ shapesT b dn ws, ∃ i j : Int, p.1 = [.inl i, .inl j] := fun p hp => by
  obtain ⟨s, _, rfl⟩ := List.mem_map.mp hp
  exact ⟨_, _, rfl⟩
theorem shapes_len {b : Bx} {dn : Bool} {ws : List Int} (hl : ws.length ≤ 12) : (shapesT b dn ws).length ≤ 144 := by
  unfold shapesT tabOf
  rw [List.length_map]
  exact Nat.le_trans (spots_len _) (Nat.mul_le_mul hl hl)
theorem keys_spots {b : Bx} {dn : Bool} {ws : List Int} {ys : List (List Key)} (h : ys.Perm ((shapesT b dn ws).map (·.1))) : ∃ ps : List (Nat × Nat), ps.Perm (spots ws.length) ∧ ps.map spK = ys := by
  have e : (shapesT b dn ws).map (·.1) = (spots ws.length).map spK := by
    unfold shapesT tabOf
    rw [List.map_map]; rfl
  rw [e] at h
  exact L2.perm_lift spK h _ rfl
theorem atD_map {α : Type} {l : List α} {g : α → D} {j : Nat} {x : α} (h : l[j]? = some x) : atD (l.map g) (j : Int) = some (g x) := atI_nat (by rw [List.getElem?_map, h]; rfl)
theorem atD_last {α : Type} {g : α → D} {l : List α} {x : α} (h : l[l.length - 1]? = some x) (hl : 1 ≤ l.length) : atD (l.map g) (-1) = some (g x) := by
  have e : ixN (l.map g).length (-1) = some (l.length - 1) := by
    unfold ixN
    rw [List.length_map, if_neg (by decide), if_pos (by omega)]
    congr 1
    omega
  unfold atD L2.atI
  rw [e]
  show (l.map g)[l.length - 1]? = _
  rw [List.getElem?_map, h]; rfl
end DL

/-! DLY: x in a list of plain data; len(set(..)) of tuples of ints. -/
namespace DL
open PySem PySem.Spec PyProof.Rows L2
section
variable {X : Cx} {W : WX} {K : PySem.W.Frag} {σ : L2.St} {H : Hp} {a b e : Expr} {wa wb we : DL.WE} {pos : Pos}
def rInP (K : PySem.W.Frag) (neg : Bool) : R2 := fun x y H Q => ∃ p ys ds d, y = .ref p ∧ SqL K H p ys ∧ DpAll K H ys ds ∧ Dp K H x d ∧ PyData.plainAll ds = true ∧ d.plain = true ∧ d.depth ≤ 60 ∧ Q (.bl (if neg then !(ds.any fun z => PyData.eqv z d) else ds.any fun z => PyData.eqv z d)) H
theorem op_inP (hu : X.A.units + 64 < cLine) : OpR X (compareOp .In) (rInP X.K false) := by
  intro pins s σ H x y v u Q I rx ry h
  obtain ⟨p, ys, ds, d, rfl, hs, hds, hd, p1, p2, p3, q⟩ := h
  obtain ⟨as, r1⟩ := Dp.reads I (.list ds) (.ref p) u (.lst hs hds) ry
  obtain ⟨bs, r2⟩ := Dp.reads I d x v hd rx
  refine PySem.SeqAt.in_list_data r1 r2 p1 p2 ?_ ⟨.bl _, H, I, rfl, q⟩
  have h2 : min (PyData.depthAll ds) d.depth ≤ d.depth := Nat.min_le_right _ _
  omega
theorem op_notInP (hu : X.A.units + 64 < cLine) : OpR X (compareOp .NotIn) (rInP X.K true) := by
  intro pins s σ H x y v u Q I rx ry h
  obtain ⟨p, ys, ds, d, rfl, hs, hds, hd, p1, p2, p3, q⟩ := h
  obtain ⟨as, r1⟩ := Dp.reads I (.list ds) (.ref p) u (.lst hs hds) ry
  obtain ⟨bs, r2⟩ := Dp.reads I d x v hd rx
  refine PySem.SeqAt.notIn_list_data r1 r2 p1 p2 ?_ ⟨.bl _, H, I, rfl, q⟩
  have h2 : min (PyData.depthAll ds) d.depth ≤ d.depth := Nat.min_le_right _ _
  omega
def oInP : DO2 := fun x y cs P => ∃ xs, lstOf cs y = some xs ∧ plL 20 xs = true ∧ plD 20 x = true ∧ P (.bl (xs.any fun z => eqD z x)) cs
def oNotInP : DO2 := fun x y cs P => ∃ xs, lstOf cs y = some xs ∧ plL 20 xs = true ∧ plD 20 x = true ∧ P (.bl (!(xs.any fun z => eqD z x))) cs
theorem any_eqv (d : D) (hd : plD 20 d = true) : ∀ xs : List D, plL 20 xs = true → ((pyL xs).any fun z => PyData.eqv z (pyD d)) = xs.any fun z => eqD z d
  | [], _ => by simp [pyL]
  | x :: xs, h => by
    simp only [plL, Bool.and_eq_true] at h
    simp only [pyL, List.any_cons]
    rw [any_eqv d hd xs h.2, eqD_eqv x d 20 20 h.1 hd]
theorem adq_inP : Adq K (rInP K false) oInP := fun F cs H x y dx dy P Q s rx ry ho pe => by
  obtain ⟨xs, hl, p1, p2, h⟩ := ho
  obtain ⟨p, vs, rfl, h1, h2⟩ := lstOf_sq s ry hl
  have a2 := plD_plain _ 20 p2
  refine ⟨p, vs, _, _, rfl, h1, RepL.dp pur_le 20 h2 p1, Rep.dp pur_le 20 rx p2, (plL_plain _ 20 p1).1, a2.1, Nat.le_trans a2.2 (by decide), ?_⟩
  rw [if_neg (by decide), any_eqv _ p2 _ p1]
  exact pe H cs _ _ s (.bl _) h
theorem adq_notInP : Adq K (rInP K true) oNotInP := fun F cs H x y dx dy P Q s rx ry ho pe => by
  obtain ⟨xs, hl, p1, p2, h⟩ := ho
  obtain ⟨p, vs, rfl, h1, h2⟩ := lstOf_sq s ry hl
  have a2 := plD_plain _ 20 p2
  refine ⟨p, vs, _, _, rfl, h1, RepL.dp pur_le 20 h2 p1, Rep.dp pur_le 20 rx p2, (plL_plain _ 20 p1).1, a2.1, Nat.le_trans a2.2 (by decide), ?_⟩
  rw [if_pos rfl, any_eqv _ p2 _ p1]
  exact pe H cs _ _ s (.bl _) h
theorem d_inP (hu : X.A.units + 64 < cLine) (ha : DE X W a wa) (hb : DE X W b wb) (hm : behindInMarks .In b = false := by rfl) : DE X W (.Compare a [.In] [b] pos) (wOp oInP wa wb) := d_cmp (op_inP hu) adq_inP ha hb hm
theorem d_notinP (hu : X.A.units + 64 < cLine) (ha : DE X W a wa) (hb : DE X W b wb) (hm : behindInMarks .NotIn b = false := by rfl) : DE X W (.Compare a [.NotIn] [b] pos) (wOp oNotInP wa wb) := d_cmp (op_notInP hu) adq_notInP ha hb hm
theorem dt_inP (hu : X.A.units + 64 < cLine) (ha : DE X W a wa) (hb : DE X W b wb) (hm : behindInMarks .In b = false := by rfl) : DT X W (.Compare a [.In] [b] pos) (wTest (wOp oInP wa wb)) := dt_cmp (op_inP hu) adq_inP ha hb hm
theorem dt_notinP (hu : X.A.units + 64 < cLine) (ha : DE X W a wa) (hb : DE X W b wb) (hm : behindInMarks .NotIn b = false := by rfl) : DT X W (.Compare a [.NotIn] [b] pos) (wTest (wOp oNotInP wa wb)) := dt_cmp (op_notInP hu) adq_notInP ha hb hm
/-! ### len(set(xs)) -/
def rLenST (P : Program) (w : World) : List V → Hp → VK → Prop := fun xs H Q => ∃ a L, xs = [.ref a] ∧ H a = some (SetTO P w a L) ∧ (L.length < 64 → (L.map (·.2)).Nodup → Q (.int (L.length : Int)) H)
theorem call_lenST : CallR X (.builtin "len") (rLenST X.prog X.w) := by
  intro pins s σ H xs us Q I r q
  obtain ⟨a, L, rfl, ha, q⟩ := q
  obtain ⟨u, rfl, rx⟩ := vals1 r
  cases rx
  have R0 : SetT0 X.prog X.w s.heap a L := (I.hok a _ ha).1
  obtain ⟨es, ep, t, ⟨o, ho, hex, hd⟩, hrows, htab, hnd, hpl, hled, hroom, hfew⟩ := R0.ex
  have hes : es.size = L.length := by
    have := congrArg List.length hrows
    rw [Array.length_toList] at this
    rw [this]; unfold L2.rowsOf; rw [List.length_map]
  have hfit : t.fits es.size = true := by
    have hsz := htab.sz
    rw [List.length_map] at hsz
    simp only [SetTable.fits, SetTable.fill, htab.dm, Bool.and_eq_true, beq_iff_eq, decide_eq_true_eq]
    refine ⟨by omega, ?_⟩
    show t.place.size + 0 ≤ t.mask
    omega
  refine call_len_set ho hex hd hfit (by rw [hes]; omega) ?_
  rw [hes]
  exact ⟨.int _, H, I.tok _, ⟨_, rfl⟩, q hfew hnd⟩
/-- tuples of ints -/
def tupI (k : List Int) : D := .tup (k.map D.int)
def wLenSet (we : DL.WE) : DL.WE := fun ρ cs P Z => we ρ cs (fun d cs1 => ∃ ks : List (List Int), lstOf cs1 d = some (ks.map tupI) ∧ ks.length < 64 ∧ ∀ m : Nat, (ks.Nodup → m = ks.length) → (¬ ks.Nodup → m < ks.length) → P (.int (m : Int)) cs1) Z
theorem RepL.tups {G : Hp} : ∀ {vs : List V} {ks : List (List Int)}, RepL K G vs (ks.map tupI) → ∃ zs : List (Addr × List Int), vs = zs.map (fun z => V.ref z.1) ∧ zs.map (·.2) = ks ∧ ∀ z ∈ zs, SqT K G z.1 (z.2.map V.int)
  | vs, [], h => by
    cases h
    exact ⟨[], rfl, rfl, fun _ h => (nomatch h)⟩
  | vs, k :: ks, h => by
    rw [List.map_cons] at h
    cases h with
    | @cons v vs _ _ h r =>
    cases h with
    | @tup q xs _ e rl =>
    obtain ⟨zs, h1, h2, h3⟩ := RepL.tups r
    refine ⟨(q, k) :: zs, by rw [h1]; rfl, by rw [List.map_cons, h2], fun z hz => ?_⟩
    rcases List.mem_cons.mp hz with e' | e'
    · rw [e']; show SqT K G q (k.map V.int); rw [← RepL.intsL k rl]; exact e
    · exact h3 z e'
theorem nodup_le {α : Type} [DecidableEq α] : ∀ {l m : List α}, l.Nodup → (∀ x ∈ l, x ∈ m) → l.length ≤ m.length
  | [], m, _, _ => Nat.zero_le _
  | x :: l, m, nd, h => by
    obtain ⟨n1, n2⟩ := List.nodup_cons.mp nd
    have hx := h x (List.mem_cons_self ..)
    have := nodup_le (m := m.erase x) n2 fun y hy => (List.mem_erase_of_ne (fun z => n1 (by rw [← z]; exact hy))).mpr (h y (List.mem_cons_of_mem _ hy))
    rw [List.length_erase_of_mem hx] at this
    have := List.length_pos_of_mem hx
    rw [List.length_cons]; omega
theorem dup_lt {α : Type} [DecidableEq α] {l m : List α} (nd : l.Nodup) (h : ∀ x ∈ l, x ∈ m) (hm : ¬ m.Nodup) : l.length < m.length := by
  induction m generalizing l with
  | nil => exact absurd List.nodup_nil hm
  | cons y m ih =>
    by_cases hy : y ∈ m
    · have : l.length ≤ m.length := nodup_le nd fun x hx => by
        rcases List.mem_cons.mp (h x hx) with e | e
        · rw [e]; exact hy
        · exact e
      rw [List.length_cons]; omega
    · have hm' : ¬ m.Nodup := fun z => hm (List.nodup_cons.mpr ⟨hy, z⟩)
      have nd' : (l.erase y).Nodup := nd.erase y
      have := ih nd' (fun x hx => by
        have hx' := List.mem_of_mem_erase hx
        rcases List.mem_cons.mp (h x hx') with e | e
        · rw [e] at hx; exact absurd hx (List.Nodup.not_mem_erase nd)
        · exact e) hm'
      have hl : l.length ≤ (l.erase y).length + 1 := by rw [List.length_erase]; split <;> omega
      rw [List.length_cons]; omega
theorem d_lenSet {p p2 pos2 : Pos} (hu : X.A.units + 64 < cLine) (hc : X.calm = true) (hg : Gl X "len") (hm : X.mg "len" = none) (hg2 : Gl X "set") (hm2 : X.mg "set" = none) (he : DE X W e we)
    (h1 : starEach [e] X.env = (false, eval e X.env) :: starEach [] X.env := by rfl) (h2 : (backTo pos2 (starEach [] X.env)).any (·.1) = false := by rfl)
    (h3 : starEach [.Call (.Name "set" p2) [e] [] pos2] X.env = (false, eval (.Call (.Name "set" p2) [e] [] pos2) X.env) :: starEach [] X.env := by rfl) (h4 : (backTo pos (starEach [] X.env)).any (·.1) = false := by rfl) :
    DE X W (.Call (.Name "len" p) [.Call (.Name "set" p2) [e] [] pos2] [] pos) (wLenSet we) :=
  PE.imp (pe_callB (es := []) call_lenST hg hm (by decide +kernel) (pa_cons (pe_callTy (es := []) (cr_setOfT hc hu) hg2 hm2 (by decide +kernel) (pa_cons he pa_nil h1) (by decide) (by decide) h1 h2) pa_nil h3) (by decide) (by decide) h3 h4) fun σ H Q h => by
    obtain ⟨F, cs, ρ, P, Z, s, re, hw, pe, px⟩ := h
    refine ⟨F, cs, ρ, _, Z, s, re, hw, fun H1 cs1 v d s1 r1 h1 => ?_, px⟩
    obtain ⟨ks, hl, h64, h1⟩ := h1
    obtain ⟨q, vs, rfl, e1, e2⟩ := lstOf_sq s1 r1 hl
    obtain ⟨zs, rfl, z2, z3⟩ := RepL.tups e2
    have zl : zs.length = ks.length := by rw [← z2, List.length_map]
    refine ⟨q, zs, rfl, e1, fun z hz => ex_t pur_le (z3 z hz), by omega, fun a L ha hL1 hL2 => ?_⟩
    obtain ⟨s2, e3⟩ := s1.new (o := SetTO X.prog X.w a L) ha
    refine ⟨a, L, rfl, upd_same, fun _ hnd => ?_⟩
    have sub : ∀ x ∈ L.map (·.2), x ∈ ks := fun x hx => by
      obtain ⟨y, hy, rfl⟩ := List.mem_map.mp hx
      rw [← z2]; exact List.mem_map.mpr ⟨y, hL1 y hy, rfl⟩
    have sup : ∀ x ∈ ks, x ∈ L.map (·.2) := fun x hx => by
      rw [← z2] at hx
      obtain ⟨y, hy, rfl⟩ := List.mem_map.mp hx
      exact hL2 y hy
    refine pe _ cs1 _ _ (s2.from_ s1.gr) (.int _) (h1 L.length (fun nd => ?_) fun nd => ?_)
    · have a1 := nodup_le hnd sub
      have a2 := nodup_le nd sup
      rw [List.length_map] at a1 a2
      omega
    · have := dup_lt hnd sub nd
      rwa [List.length_map] at this
end
section
variable {ρ : DL.Env} {cs : Cs} {P : DP} {Z : XZ} {we : DL.WE} {xs : List D} {d : D} {p : Addr}
theorem r_inPL (h1 : plL 20 xs = true) (h2 : plD 20 d = true) (h : P (.bl (xs.any fun z => eqD z d)) cs) : oInP d (.lst xs) cs P := ⟨xs, rfl, h1, h2, h⟩
theorem r_niPL (h1 : plL 20 xs = true) (h2 : plD 20 d = true) (h : P (.bl (!(xs.any fun z => eqD z d))) cs) : oNotInP d (.lst xs) cs P := ⟨xs, rfl, h1, h2, h⟩
theorem r_inPH (h1 : plL 20 xs = true) (h2 : plD 20 d = true) (h : P (.bl (xs.any fun z => eqD z d)) ((p, .lst xs) :: cs)) : oInP d (.opq (.ref p)) ((p, .lst xs) :: cs) P := ⟨xs, lstOf_m look_hd, h1, h2, h⟩
theorem r_niPH (h1 : plL 20 xs = true) (h2 : plD 20 d = true) (h : P (.bl (!(xs.any fun z => eqD z d))) ((p, .lst xs) :: cs)) : oNotInP d (.opq (.ref p)) ((p, .lst xs) :: cs) P := ⟨xs, lstOf_m look_hd, h1, h2, h⟩
theorem r_lenSet (h : we ρ cs (fun d cs1 => ∃ ks : List (List Int), lstOf cs1 d = some (ks.map tupI) ∧ ks.length < 64 ∧ ∀ m : Nat, (ks.Nodup → m = ks.length) → (¬ ks.Nodup → m < ks.length) → P (.int (m : Int)) cs1) Z) : wLenSet we ρ cs P Z := h
/-! ### pairs of ints -/
def prD (p : Int × Int) : D := .tup [.int p.1, .int p.2]
theorem plD_pr (p : Int × Int) {n : Nat} : plD (n + 1) (prD p) = true := by cases n <;> rfl
theorem plL_prs {n : Nat} : ∀ l : List (Int × Int), plL (n + 1) (l.map prD) = true
  | [] => by simp [plL]
  | p :: l => by
    simp only [List.map_cons, plL, Bool.and_eq_true]
    exact ⟨plD_pr p, plL_prs l⟩
theorem eqD_pr (p q : Int × Int) : eqD (prD p) (prD q) = decide (p = q) := by
  obtain ⟨a, b⟩ := p
  obtain ⟨c, d⟩ := q
  simp only [prD, eqD, eqL, Bool.and_true]
  rw [Bool.eq_iff_iff, Bool.and_eq_true, beq_iff_eq, beq_iff_eq, decide_eq_true_iff, Prod.mk.injEq]
theorem any_pr (l : List (Int × Int)) (q : Int × Int) : ((l.map prD).any fun z => eqD z (prD q)) = decide (q ∈ l) := by
  induction l with
  | nil => rfl
  | cons p l ih =>
    rw [List.map_cons, List.any_cons, ih, eqD_pr]
    by_cases e : p = q
    · subst e; simp
    · simp [e, Ne.symm e]
end
end DL

/-! DLCa: least costs of ways whose rows are let (plain mathematics). -/
namespace DL
open PySem PySem.Spec PyProof.Rows L2
/-- rows from f to n, each let by R -/
inductive LWay (R : Nat → Nat → Prop) (n : Nat) : Nat → List Nat → Prop
  | nil : LWay R n n []
  | cons {f z : Nat} {zs : List Nat} : 1 ≤ z → f + z ≤ n → R f (f + z) → LWay R n (f + z) zs → LWay R n f (z :: zs)
/-- their cost -/
def wc (c : Nat → Nat → Int) : Nat → List Nat → Int
  | _, [] => 0
  | f, z :: zs => c f (f + z) + wc c (f + z) zs
/-- k is the least cost -/
structure IsC (R : Nat → Nat → Prop) (c : Nat → Nat → Int) (n f : Nat) (k : Int) : Prop where
  is : ∃ zs, LWay R n f zs ∧ wc c f zs = k
  le : ∀ zs, LWay R n f zs → k ≤ wc c f zs
section
variable {R : Nat → Nat → Prop} {c : Nat → Nat → Int} {n f : Nat} {k l : Int} {zs : List Nat}
theorem LWay.way (h : LWay R n f zs) : Way n f zs := by
  induction h with
  | nil => exact .nil
  | cons h1 h2 _ _ ih => exact .cons h1 h2 ih
theorem LWay.end_ (h : LWay R n n zs) : zs = [] := h.way.end_
theorem IsC.uniq (h : IsC R c n f k) (h' : IsC R c n f l) : k = l := by
  obtain ⟨zs, w, e⟩ := h.is
  obtain ⟨zs', w', e'⟩ := h'.is
  have h1 := h.le zs' w'
  have h2 := h'.le zs w
  omega
theorem IsC.end_ : IsC R c n n 0 := ⟨⟨[], .nil, rfl⟩, fun zs h => by rw [h.end_]; exact Int.le_refl _⟩
open Classical in
/-- the least cost behind f, if a way leads on -/
noncomputable def CB (R : Nat → Nat → Prop) (c : Nat → Nat → Int) (n f : Nat) : Option Int := if h : ∃ k, IsC R c n f k then some h.choose else none
theorem CB_some : CB R c n f = some k ↔ IsC R c n f k := by
  unfold CB
  constructor
  · intro h
    split at h
    · rename_i q
      cases h
      exact q.choose_spec
    · cases h
  · intro h
    rw [dif_pos ⟨k, h⟩]
    exact congrArg some ((Exists.choose_spec (⟨k, h⟩ : ∃ k, IsC R c n f k)).uniq h)
theorem CB_n : CB R c n n = some 0 := CB_some.mpr .end_
/-- by the next row -/
theorem IsC.step (h1 : ∃ e l, f < e ∧ e ≤ n ∧ R f e ∧ IsC R c n e l ∧ k = c f e + l) (h2 : ∀ e l, f < e → e ≤ n → R f e → IsC R c n e l → k ≤ c f e + l) (h3 : ∀ e zs, f < e → LWay R n e zs → ∃ l, IsC R c n e l) : IsC R c n f k := by
  refine ⟨?_, fun zs w => ?_⟩
  · obtain ⟨e, l, e1, e2, e3, e4, rfl⟩ := h1
    obtain ⟨zs, w, ew⟩ := e4.is
    have he : f + (e - f) = e := by omega
    exact ⟨(e - f) :: zs, .cons (by omega) (by omega) (by rw [he]; exact e3) (by rw [he]; exact w), by rw [wc, he, ew]⟩
  · cases w with
    | nil =>
      obtain ⟨e, l, e1, e2, _⟩ := h1
      omega
    | @cons _ z zs z1 z2 z3 w =>
      obtain ⟨l, hl⟩ := h3 (f + z) zs (by omega) w
      have a1 := h2 (f + z) l (by omega) z2 z3 hl
      have a2 := hl.le zs w
      rw [wc]; omega
/-- a way that leads on has a least cost -/
theorem isC_ex : ∀ (m f : Nat), f + m = n → ∀ zs, LWay R n f zs → ∃ k, IsC R c n f k := by
  intro m
  induction m using Nat.strongRecOn with
  | _ m ih =>
    intro f hm zs w
    by_cases e : f = n
    · subst e; exact ⟨0, .end_⟩
    · have h3 : ∀ e zs, f < e → LWay R n e zs → ∃ l, IsC R c n e l := fun e zs e1 w => ih (n - e) (by have := w.way.le; omega) e (by have := w.way.le; omega) zs w
      have mn : ∀ j : Nat, f + 1 + j ≤ n → (∃ e l, f < e ∧ e ≤ f + 1 + j ∧ R f e ∧ IsC R c n e l) → ∃ k, (∃ e l, f < e ∧ e ≤ f + 1 + j ∧ R f e ∧ IsC R c n e l ∧ k = c f e + l) ∧ ∀ e l, f < e → e ≤ f + 1 + j → R f e → IsC R c n e l → k ≤ c f e + l := by
        intro j
        induction j with
        | zero =>
          rintro hj ⟨e, l, e1, e2, e3, e4⟩
          refine ⟨_, ⟨e, l, e1, e2, e3, e4, rfl⟩, fun e' l' h1 h2 _ h4 => ?_⟩
          have : e' = e := by omega
          subst this
          rw [h4.uniq e4]; exact Int.le_refl _
        | succ j ihj =>
          rintro hj ⟨e, l, e1, e2, e3, e4⟩
          by_cases q1 : ∃ l', R f (f + 1 + (j + 1)) ∧ IsC R c n (f + 1 + (j + 1)) l'
          · obtain ⟨l', r1, r2⟩ := q1
            by_cases q2 : ∃ e l, f < e ∧ e ≤ f + 1 + j ∧ R f e ∧ IsC R c n e l
            · obtain ⟨k, ⟨e0, l0, k1, k2, k3, k4, k5⟩, k6⟩ := ihj (by omega) q2
              by_cases q3 : k ≤ c f (f + 1 + (j + 1)) + l'
              · refine ⟨k, ⟨e0, l0, k1, by omega, k3, k4, k5⟩, fun e' l'' h1 h2 h3 h4 => ?_⟩
                by_cases z : e' = f + 1 + (j + 1)
                · subst z; rw [h4.uniq r2]; exact q3
                · exact k6 e' l'' h1 (by omega) h3 h4
              · refine ⟨_, ⟨f + 1 + (j + 1), l', by omega, by omega, r1, r2, rfl⟩, fun e' l'' h1 h2 h3 h4 => ?_⟩
                by_cases z : e' = f + 1 + (j + 1)
                · subst z; rw [h4.uniq r2]; exact Int.le_refl _
                · have := k6 e' l'' h1 (by omega) h3 h4; omega
            · refine ⟨_, ⟨f + 1 + (j + 1), l', by omega, by omega, r1, r2, rfl⟩, fun e' l'' h1 h2 h3 h4 => ?_⟩
              by_cases z : e' = f + 1 + (j + 1)
              · subst z; rw [h4.uniq r2]; exact Int.le_refl _
              · exact absurd ⟨e', l'', h1, by omega, h3, h4⟩ q2
          · have : e ≠ f + 1 + (j + 1) := fun z => q1 ⟨l, by rw [← z]; exact e3, by rw [← z]; exact e4⟩
            obtain ⟨k, ⟨e0, l0, k1, k2, k3, k4, k5⟩, k6⟩ := ihj (by omega) ⟨e, l, e1, by omega, e3, e4⟩
            refine ⟨k, ⟨e0, l0, k1, by omega, k3, k4, k5⟩, fun e' l'' h1 h2 h3 h4 => ?_⟩
            by_cases z : e' = f + 1 + (j + 1)
            · exact absurd ⟨l'', by rw [← z]; exact h3, by rw [← z]; exact h4⟩ q1
            · exact k6 e' l'' h1 (by omega) h3 h4
      cases w with
      | nil => exact absurd rfl e
      | @cons _ z zs z1 z2 z3 w =>
        obtain ⟨l, hl⟩ := h3 (f + z) zs (by omega) w
        obtain ⟨k, ⟨e0, l0, k1, k2, k3, k4, k5⟩, k6⟩ := mn (n - (f + 1)) (by omega) ⟨f + z, l, by omega, by omega, z3, hl⟩
        exact ⟨k, IsC.step ⟨e0, l0, k1, by omega, k3, k4, k5⟩ (fun e l h1 h2 => k6 e l h1 (by omega)) h3⟩
theorem CB_none (hf : f ≤ n) : CB R c n f = none ↔ ∀ zs, ¬ LWay R n f zs := by
  constructor
  · intro h zs w
    obtain ⟨k, hk⟩ := isC_ex (c := c) (n - f) f (by omega) zs w
    rw [CB_some.mpr hk] at h
    cases h
  · intro h
    cases e : CB R c n f with
    | none => rfl
    | some k =>
      obtain ⟨zs, w, _⟩ := (CB_some.mp e).is
      exact absurd w (h zs)
theorem isC_of {e : Nat} {zs : List Nat} (w : LWay R n e zs) : ∃ l, IsC R c n e l := isC_ex (n - e) e (by have := w.way.le; omega) zs w
/-- the costs of the rows from f on, by the next row: what costs_behind computes -/
theorem CB_min (hf : f < n) {k : Int} (h1 : ∃ e l, f < e ∧ e ≤ n ∧ R f e ∧ CB R c n e = some l ∧ k = c f e + l) (h2 : ∀ e l, f < e → e ≤ n → R f e → CB R c n e = some l → k ≤ c f e + l) : CB R c n f = some k := by
  rw [CB_some]
  obtain ⟨e, l, a1, a2, a3, a4, a5⟩ := h1
  exact IsC.step ⟨e, l, a1, a2, a3, CB_some.mp a4, a5⟩ (fun e l h1 h2' h3 h4 => h2 e l h1 h2' h3 (CB_some.mpr h4)) fun e zs _ w => isC_of w
theorem CB_no (hf : f < n) (h : ∀ e l, f < e → e ≤ n → R f e → CB R c n e ≠ some l) : CB R c n f = none := by
  rw [CB_none (Nat.le_of_lt hf)]
  intro zs w
  cases w with
  | nil => omega
  | @cons _ z zs z1 z2 z3 w =>
    obtain ⟨l, hl⟩ := isC_of (c := c) w
    exact h (f + z) l (by omega) z2 z3 (CB_some.mpr hl)
/-- the row that the calm sizes take -/
def gC (R : Nat → Nat → Prop) (c : Nat → Nat → Int) (n : Nat) (f e : Nat) : Prop := R f e ∧ ∃ l, CB R c n e = some l ∧ CB R c n f = some (c f e + l)
theorem CB_next (hf : f < n) (h : CB R c n f = some k) : ∃ e, f < e ∧ e ≤ n ∧ gC R c n f e := by
  obtain ⟨zs, w, ew⟩ := (CB_some.mp h).is
  cases w with
  | nil => omega
  | @cons _ z zs z1 z2 z3 w =>
    obtain ⟨l, hl⟩ := isC_of (c := c) w
    refine ⟨f + z, by omega, z2, z3, l, CB_some.mpr hl, ?_⟩
    rw [h]
    congr 1
    have a1 := hl.le zs w
    rw [wc] at ew
    obtain ⟨ys, wy, ey⟩ := hl.is
    have a2 := (CB_some.mp h).le (z :: ys) (.cons z1 z2 z3 wy)
    rw [wc, ey] at a2
    omega
theorem calm_way (h : IsFW (gC R c n) n f zs) : LWay R n f zs := by
  induction h with
  | nil => exact .nil
  | cons h1 h2 g _ _ ih => exact .cons h1 h2 g.1 ih
theorem calm_cost (h : IsFW (gC R c n) n f zs) : CB R c n f = some (wc c f zs) := by
  induction h with
  | nil => exact CB_n
  | cons h1 h2 g _ _ ih =>
    obtain ⟨_, l, g1, g2⟩ := g
    rw [ih] at g1
    cases g1
    rw [g2, wc]
end
/-! ### min, max of a list of ints -/
section
variable {K : PySem.W.Frag}
def oMinL : DOn := fun ds cs P => ∃ (d : D) (ns : List Int), ds = [d] ∧ lstOf cs d = some (ns.map D.int) ∧ 0 < ns.length ∧ ∀ m, m ∈ ns → (∀ y, y ∈ ns → m ≤ y) → P (.int m) cs
def oMaxL : DOn := fun ds cs P => ∃ (d : D) (ns : List Int), ds = [d] ∧ lstOf cs d = some (ns.map D.int) ∧ 0 < ns.length ∧ ∀ m, m ∈ ns → (∀ y, y ∈ ns → y ≤ m) → P (.int m) cs
theorem adq_min : AdqN K (rMin K) oMinL := fun F cs H xs ds P Q s r ho pe => by
  obtain ⟨d, ns, rfl, hl, h0, h⟩ := ho
  cases r with
  | cons r1 r2 =>
  cases r2
  obtain ⟨p, vs, rfl, h1, h2⟩ := lstOf_sq s r1 hl
  rw [RepL.intsL ns h2] at h1
  exact ⟨p, ns, rfl, h1, h0, fun m m1 m2 => pe H cs _ _ s (.int _) (h m m1 m2)⟩
theorem adq_max : AdqN K (rMax K) oMaxL := fun F cs H xs ds P Q s r ho pe => by
  obtain ⟨d, ns, rfl, hl, h0, h⟩ := ho
  cases r with
  | cons r1 r2 =>
  cases r2
  obtain ⟨p, vs, rfl, h1, h2⟩ := lstOf_sq s r1 hl
  rw [RepL.intsL ns h2] at h1
  exact ⟨p, ns, rfl, h1, h0, fun m m1 m2 => pe H cs _ _ s (.int _) (h m m1 m2)⟩
theorem r_minL {ns : List Int} {cs : Cs} {P : DP} (h0 : 0 < ns.length) (h : ∀ m, m ∈ ns → (∀ y, y ∈ ns → m ≤ y) → P (.int m) cs) : oMinL [.lst (ns.map D.int)] cs P := ⟨_, ns, rfl, rfl, h0, h⟩
theorem r_maxL {ns : List Int} {cs : Cs} {P : DP} (h0 : 0 < ns.length) (h : ∀ m, m ∈ ns → (∀ y, y ∈ ns → y ≤ m) → P (.int m) cs) : oMaxL [.lst (ns.map D.int)] cs P := ⟨_, ns, rfl, rfl, h0, h⟩
end
/-! ### kept rows, rows that are let -/
structure KOk (ks : List (Int × Int)) (n : Nat) : Prop where
  in_ : ∀ p ∈ ks, 0 ≤ p.1 ∧ 1 ≤ p.2 ∧ p.1 + p.2 ≤ n
  nd : ks.Nodup
  len : ks.length < 64
/-- a row is let -/
def lets (sh : Nat → Nat → Rat) (r : Rat) (f e : Nat) : Prop := ¬ r < sh f e
/-- what a row costs -/
def cst (ks : List (Int × Int)) (f e : Nat) : Int := if ((f : Int), (e : Int) - (f : Int)) ∈ ks then 0 else 1
def rowsL (sh : Nat → Nat → Rat) (n : Nat) (r : Rat) : List (Nat × Nat) := (spots n).filter fun p => !decide (r < sh p.1 p.2)
def rowsT (sh : Nat → Nat → Rat) (n : Nat) (r : Rat) (ks : List (Int × Int)) : List (List Key × D) := (rowsL sh n r).map fun p => (spK p, .int (cst ks p.1 p.2))
section
variable {sh : Nat → Nat → Rat} {n : Nat} {r : Rat} {ks : List (Int × Int)} {f e : Nat}
theorem mem_rowsL {p : Nat × Nat} : p ∈ rowsL sh n r ↔ p.1 < p.2 ∧ p.2 ≤ n ∧ lets sh r p.1 p.2 := by
  unfold rowsL
  rw [List.mem_filter, mem_spots]
  unfold lets
  simp [and_assoc]
theorem lk_rows (h1 : f < e) (h2 : e ≤ n) (h3 : lets sh r f e) : lk (rowsT sh n r ks) [.inl (f : Int), .inl (e : Int)] = some (.int (cst ks f e)) :=
  look_map spK (fun p => D.int (cst ks p.1 p.2)) (f, e) _ (mem_rowsL.mpr ⟨h1, h2, h3⟩) fun y _ hy => spK_inj hy
theorem lk_rows_none (h : ¬ lets sh r f e) : lk (rowsT sh n r ks) [.inl (f : Int), .inl (e : Int)] = none :=
  look_map_none spK (fun p => D.int (cst ks p.1 p.2)) _ fun y hy z => h (by
    have e1 := spK_inj (q := (f, e)) z
    rw [e1] at hy
    exact (mem_rowsL.mp hy).2.2)
theorem lk_rows_is (h1 : f < e) (h2 : e ≤ n) : (lk (rowsT sh n r ks) [.inl (f : Int), .inl (e : Int)]).isSome = !decide (r < sh f e) := by
  by_cases h : r < sh f e
  · rw [lk_rows_none fun z => z h, decide_eq_true h]; rfl
  · rw [lk_rows h1 h2 h, decide_eq_false h]; rfl
theorem rowsL_len (hn : n ≤ 12) : (rowsL sh n r).length ≤ 144 := Nat.le_trans (List.length_filter_le _ _) (Nat.le_trans (spots_len n) (Nat.mul_le_mul hn hn))
theorem rowsT_keys : (rowsT sh n r ks).map (·.1) = (rowsL sh n r).map spK := by
  unfold rowsT; rw [List.map_map]; rfl
/-- the pair that a key stands for -/
def pOf (k : List Key) : Nat × Nat := match k with
  | [.inl a, .inl b] => (a.toNat, b.toNat)
  | _ => (0, 0)
theorem pOf_spK (p : Nat × Nat) : pOf (spK p) = p := by
  obtain ⟨a, b⟩ := p
  simp [pOf, spK]
theorem rows_made : (((spots n).map spK).filter fun k => !decide (r < sh (pOf k).1 (pOf k).2)).map (fun k => (k, D.int (cst ks (pOf k).1 (pOf k).2))) = rowsT sh n r ks := by
  unfold rowsT rowsL
  rw [List.filter_map, List.map_map]
  refine (List.map_congr_left fun p _ => ?_).trans (congrArg (fun l => List.map _ l) (List.filter_congr fun p _ => ?_))
  · show (spK p, D.int (cst ks (pOf (spK p)).1 (pOf (spK p)).2)) = (spK p, D.int (cst ks p.1 p.2))
    rw [pOf_spK]
  · show (!decide (r < sh (pOf (spK p)).1 (pOf (spK p)).2)) = _
    rw [pOf_spK]
theorem mem_old : ((f : Int), (e : Int)) ∈ ks.map (fun p => (p.1, p.1 + p.2)) ↔ ((f : Int), (e : Int) - (f : Int)) ∈ ks := by
  constructor
  · intro h
    obtain ⟨⟨a, b⟩, hp, e1⟩ := List.mem_map.mp h
    have e2 : a = (f : Int) := congrArg Prod.fst e1
    have e3 : a + b = (e : Int) := congrArg Prod.snd e1
    have e4 : b = (e : Int) - (f : Int) := by omega
    rw [← e4, ← e2]; exact hp
  · intro h
    refine List.mem_map.mpr ⟨_, h, ?_⟩
    have e1 : (f : Int) + ((e : Int) - (f : Int)) = e := by omega
    show ((f : Int), (f : Int) + ((e : Int) - (f : Int))) = _
    rw [e1]
end
/-! ### rows of sizes as kept rows -/
def spl (zs : List Int) : List (Int × Int) := (List.range zs.length).map fun i => (preS zs i, zs.getD i 0)
theorem mem_spl {zs : List Int} {p : Int × Int} : p ∈ spl zs ↔ ∃ i, zs[i]? = some p.2 ∧ p.1 = preS zs i := by
  unfold spl
  rw [List.mem_map]
  constructor
  · rintro ⟨i, hi, rfl⟩
    have hi := List.mem_range.mp hi
    exact ⟨i, by rw [List.getD_eq_getElem?_getD, List.getElem?_eq_getElem hi]; rfl, rfl⟩
  · rintro ⟨i, h1, h2⟩
    have hi := (List.getElem?_eq_some_iff.mp h1).1
    exact ⟨i, List.mem_range.mpr hi, by rw [getD_of h1, ← h2]⟩
theorem preS_lt {zs : List Int} (hp : ∀ z ∈ zs, 1 ≤ z) {i j : Nat} (hij : i < j) (hj : j ≤ zs.length) : preS zs i < preS zs j := by
  induction j with
  | zero => omega
  | succ j ih =>
    have hz : zs[j]? = some zs[j] := List.getElem?_eq_getElem (by omega)
    rw [preS_succ hz]
    have := hp _ (List.mem_of_getElem? hz)
    by_cases e : i = j
    · subst e; omega
    · have := ih (by omega) (by omega); omega
theorem preS_inj {zs : List Int} (hp : ∀ z ∈ zs, 1 ≤ z) {i j : Nat} (hi : i ≤ zs.length) (hj : j ≤ zs.length) (h : preS zs i = preS zs j) : i = j := by
  rcases Nat.lt_trichotomy i j with q | q | q
  · have := preS_lt hp q hj; omega
  · exact q
  · have := preS_lt hp q hi; omega
theorem spl_nodup {zs : List Int} (hp : ∀ z ∈ zs, 1 ≤ z) : (spl zs).Nodup := by
  unfold spl List.Nodup
  rw [List.pairwise_map]
  refine List.Pairwise.imp_of_mem (fun {a b} ha hb hab z => ?_) (List.nodup_range (n := zs.length))
  have ha := List.mem_range.mp ha
  have hb := List.mem_range.mp hb
  exact hab (preS_inj hp (by omega) (by omega) (congrArg Prod.fst z))
theorem spl_ok {zs : List Int} {n : Nat} (hz : SzOk zs n) (hn : n < 64) : KOk (spl zs) n := by
  refine ⟨fun p hp => ?_, spl_nodup hz.pos, ?_⟩
  · obtain ⟨i, h1, h2⟩ := mem_spl.mp hp
    obtain ⟨z1, z2, z3, z4, z5⟩ := hz.at_ h1
    rw [h2]
    omega
  · have := hz.len
    unfold spl
    rw [List.length_map, List.length_range]; omega
theorem KOk.perm {ks ls : List (Int × Int)} {n : Nat} (h : KOk ks n) (p : ls.Perm ks) : KOk ls n := ⟨fun x hx => h.in_ x (p.mem_iff.mp hx), p.nodup_iff.mpr h.nd, by rw [p.length_eq]; exact h.len⟩
theorem KOk.sub {ks ls : List (Int × Int)} {n : Nat} (h : KOk ks n) (p : ls.Sublist ks) : KOk ls n := ⟨fun x hx => h.in_ x (p.subset hx), p.nodup h.nd, Nat.lt_of_le_of_lt p.length_le h.len⟩
/-- rows: first and size -/
def rowsP : Nat → List Nat → List (Nat × Nat)
  | _, [] => []
  | f, z :: zs => (f, z) :: rowsP (f + z) zs
/-- a way all of whose rows are those of zs is zs -/
theorem way_rows {zs : List Nat} {n : Nat} (hz : Way n 0 zs) : ∀ {f : Nat} {ys : List Nat} (i : Nat), Way n f ys → (f : Int) = preS (natI zs) i → i ≤ zs.length → (∀ g z, (g, z) ∈ (rowsP f ys) → ((g : Int), (z : Int)) ∈ spl (natI zs)) → ys = zs.drop i
  | f, [], i, w, hf, hi, _ => by
    cases w
    have hs := hz.sum
    have e : i = zs.length := by
      refine preS_inj (zs := natI zs) (way_szok hz).pos (by simpa using hi) (by simp) ?_
      rw [← hf]
      unfold preS
      rw [show (natI zs).take zs.length = natI zs by rw [List.take_of_length_le (by simp)]]
      have := sum_cast zs
      show _ = (natI zs).sum
      rw [this]; omega
    rw [e, List.drop_length]
  | f, y :: ys, i, w, hf, hi, h => by
    cases w with
    | cons y1 y2 w =>
    have hm := h f y (by simp [rowsP])
    obtain ⟨j, j1, j2⟩ := mem_spl.mp hm
    have hj := (List.getElem?_eq_some_iff.mp j1).1
    simp only at j1 j2
    have hj' : j < zs.length := by simpa using hj
    have e : i = j := preS_inj (way_szok hz).pos (by simpa using hi) (Nat.le_of_lt hj) (by rw [← hf]; exact j2)
    subst e
    have hy : zs[i]? = some y := by
      rw [List.getElem?_map] at j1
      obtain ⟨x, hx, hxy⟩ := Option.map_eq_some_iff.mp j1
      rw [hx]; congr 1; omega
    have := way_rows hz (i + 1) w (by rw [preS_succ j1, ← hf]; omega) (by omega) fun g z hg => h g z (by simp [rowsP, hg])
    rw [this]
    have hd : zs.drop i = y :: zs.drop (i + 1) := by
      rw [List.drop_eq_getElem_cons hj']
      congr 1
      rw [List.getElem?_eq_getElem hj'] at hy
      exact Option.some.inj hy
    exact hd.symm
/-- what a way of rows that are all kept costs; what costs nothing is kept -/
theorem wc_zero {ks : List (Int × Int)} : ∀ (ys : List Nat) (f : Nat), (∀ g z, (g, z) ∈ rowsP f ys → ((g : Int), (z : Int)) ∈ ks) → wc (cst ks) f ys = 0
  | [], _, _ => rfl
  | z :: ys, f, h => by
    rw [wc, wc_zero ys (f + z) fun g y hg => h g y (by simp [rowsP, hg])]
    have := h f z (by simp [rowsP])
    unfold cst
    rw [if_pos (by rw [show ((f + z : Nat) : Int) - (f : Int) = (z : Int) by omega]; exact this)]; rfl
theorem cst_nn (ks : List (Int × Int)) (f e : Nat) : 0 ≤ cst ks f e := by unfold cst; split <;> decide
theorem wc_nn (ks : List (Int × Int)) : ∀ (ys : List Nat) (f : Nat), 0 ≤ wc (cst ks) f ys
  | [], _ => Int.le_refl _
  | z :: ys, f => by
    rw [wc]
    have := wc_nn ks ys (f + z)
    have := cst_nn ks f (f + z)
    omega
theorem zero_kept {ks : List (Int × Int)} : ∀ (ys : List Nat) (f : Nat), wc (cst ks) f ys = 0 → ∀ g z, (g, z) ∈ rowsP f ys → ((g : Int), (z : Int)) ∈ ks
  | [], _, _, g, z, h => by simp [rowsP] at h
  | y :: ys, f, hw, g, z, h => by
    rw [wc] at hw
    have a1 := wc_nn ks ys (f + y)
    have a2 := cst_nn ks f (f + y)
    rw [rowsP] at h
    rcases List.mem_cons.mp h with e | e
    · cases e
      have : cst ks f (f + y) = 0 := by omega
      unfold cst at this
      split at this
      · rename_i q
        rw [show ((f + y : Nat) : Int) - (f : Int) = (y : Int) by omega] at q; exact q
      · cases this
    · exact zero_kept ys (f + y) (by omega) g z e
theorem rowsP_spl : ∀ (zs ys : List Nat) (f : Nat), (f : Int) = ((ys.sum : Nat) : Int) → ∀ g z, (g, z) ∈ rowsP f zs → ((g : Int), (z : Int)) ∈ spl (natI (ys ++ zs))
  | [], _, _, _, g, z, h => by simp [rowsP] at h
  | y :: zs, ys, f, hf, g, z, h => by
    rw [rowsP] at h
    rcases List.mem_cons.mp h with e | e
    · cases e
      refine mem_spl.mpr ⟨ys.length, ?_, ?_⟩
      · rw [List.getElem?_map, List.getElem?_append_right (Nat.le_refl _)]; simp
      · show _ = preS (natI (ys ++ _ :: zs)) ys.length
        unfold preS
        rw [← List.map_take, List.take_left, sum_cast]; exact hf
    · have := rowsP_spl zs (ys ++ [y]) (f + y) (by rw [List.sum_append]; simp; omega) g z e
      rw [List.append_assoc] at this
      exact this
/-- sizes whose rows are let and all kept are calm, at no cost -/
theorem calm_kept {R : Nat → Nat → Prop} {ks : List (Int × Int)} {n : Nat} {zs : List Nat} (hz : LWay R n 0 zs) (hk : ∀ p, p ∈ ks ↔ p ∈ spl (natI zs)) : CB R (cst ks) n 0 = some 0 ∧ ∀ ys, IsFW (gC R (cst ks) n) n 0 ys → ys = zs := by
  have h0 : wc (cst ks) 0 zs = 0 := wc_zero zs 0 fun g z h => (hk _).mpr (by have := rowsP_spl zs [] 0 rfl g z h; simpa using this)
  have hC : CB R (cst ks) n 0 = some 0 := CB_some.mpr ⟨⟨zs, hz, h0⟩, fun ys _ => wc_nn ks ys 0⟩
  refine ⟨hC, fun ys hy => ?_⟩
  have hc := calm_cost hy
  rw [hC] at hc
  have := way_rows hz.way 0 hy.way (by rw [preS_zero]; rfl) (Nat.zero_le _) fun g z hg => (hk _).mp (zero_kept ys 0 (Option.some.inj hc).symm g z hg)
  simpa using this
/-- rows whose worst shape is not above r are let -/
theorem lets_of {sh : Nat → Nat → Rat} {n : Nat} {r : Rat} {f : Nat} {zs : List Nat} (h : Way n f zs) (hr : wFrom sh f zs ≤ r) : LWay (lets sh r) n f zs := by
  induction h with
  | nil => exact .nil
  | cons h1 h2 _ ih =>
    rw [wFrom] at hr
    exact .cons h1 h2 (Rat.not_lt.mpr (Rat.le_trans (mxR_l _ _) hr)) (ih (Rat.le_trans (mxR_r _ _) hr))
theorem CB_ne {R : Nat → Nat → Prop} {c : Nat → Nat → Int} {n : Nat} {zs : List Nat} (h : LWay R n 0 zs) : CB R c n 0 ≠ none := fun z => (CB_none (Nat.zero_le _)).mp z zs h
theorem dR_part {a : Int} : D.tup [.int a, .int 1] = dR (a : Rat) := rfl
theorem natD_map (zs : List Nat) : zs.map natD = (natI zs).map D.int := by rw [List.map_map]; rfl
theorem plD_calm (xs : List Int) (k : Int) (h : xs.length ≤ 100000) : plD 5 (.tup [.tup (xs.map D.int), .int k]) = true := plD_tI (by simp only [plL, Bool.and_eq_true]; exact ⟨plD_intsT _ h, rfl, trivial⟩) (by simp)
/-! ### costs against one another -/
section
variable {sh : Nat → Nat → Rat} {n : Nat} {r r' : Rat} {ks ls : List (Int × Int)} {f : Nat} {zs : List Nat}
theorem LWay.imp {R R' : Nat → Nat → Prop} (h : LWay R n f zs) (hi : ∀ a e, R a e → R' a e) : LWay R' n f zs := by
  induction h with
  | nil => exact .nil
  | cons h1 h2 h3 _ ih => exact .cons h1 h2 (hi _ _ h3) ih
theorem lets_mono (h : r ≤ r') : ∀ a e, lets sh r a e → lets sh r' a e := fun a e h1 h2 => h1 (Std.lt_of_le_of_lt h h2)
theorem lets_iff (h1 : 1 ≤ r) (h : Way n f zs) : LWay (lets sh r) n f zs ↔ wFrom sh f zs ≤ r := by
  constructor
  · intro w
    induction w with
    | nil => exact h1
    | @cons f z zs z1 z2 z3 w ih =>
      rw [wFrom]
      rcases mxR_or (sh f (f + z)) (wFrom sh (f + z) zs) with e | e <;> rw [e]
      · exact Rat.not_lt.mp z3
      · exact ih w.way
  · exact lets_of h
theorem CB_none_iff (h1 : 1 ≤ r) {c : Nat → Nat → Int} : CB (lets sh r) c n 0 = none ↔ r < LE sh n 0 := by
  rw [CB_none (Nat.zero_le _)]
  have hL := LE_ok (sh := sh) (Nat.zero_le n)
  constructor
  · intro h
    refine Rat.not_le.mp fun z => ?_
    obtain ⟨ts, t1, t2⟩ := hL.is
    exact h ts (lets_of t1 (by rw [t2]; exact z))
  · intro h zs w
    exact Rat.not_lt.mpr (Rat.le_trans (hL.le zs w.way) ((lets_iff h1 w.way).mp w)) h
theorem wc_le : ∀ (ys : List Nat) (f : Nat), wc (cst ks) f ys ≤ ys.length
  | [], _ => Int.le_refl _
  | z :: ys, f => by
    rw [wc, List.length_cons]
    have := wc_le ys (f + z)
    have : cst ks f (f + z) ≤ 1 := by unfold cst; split <;> decide
    omega
theorem Way.len {ys : List Nat} (h : Way n f ys) : f + ys.length ≤ n := by
  induction h with
  | nil => exact Nat.le_refl _
  | cons h1 h2 _ ih => rw [List.length_cons]; omega
/-- a cost, 99 where there is none -/
noncomputable def K99 (sh : Nat → Nat → Rat) (n : Nat) (r : Rat) (ks : List (Int × Int)) : Int := (CB (lets sh r) (cst ks) n 0).getD 99
theorem K99_le (hn : n ≤ 12) : CB (lets sh r) (cst ks) n 0 = none ∧ K99 sh n r ks = 99 ∨ ∃ k, CB (lets sh r) (cst ks) n 0 = some k ∧ K99 sh n r ks = k ∧ 0 ≤ k ∧ k ≤ 12 := by
  unfold K99
  cases e : CB (lets sh r) (cst ks) n 0 with
  | none => exact .inl ⟨rfl, rfl⟩
  | some k =>
    refine .inr ⟨k, rfl, rfl, ?_⟩
    obtain ⟨zs, w, rfl⟩ := (CB_some.mp e).is
    have := w.way.len
    have := wc_le (ks := ks) zs 0
    have := wc_nn ks zs 0
    omega
theorem K99_mono (hn : n ≤ 12) (h : r ≤ r') : K99 sh n r' ks ≤ K99 sh n r ks := by
  rcases K99_le (sh := sh) (r := r') (ks := ks) hn with ⟨e1, e2⟩ | ⟨k', e1, e2, e3, e4⟩
  · rcases K99_le (sh := sh) (r := r) (ks := ks) hn with ⟨d1, d2⟩ | ⟨k, d1, d2, d3, d4⟩
    · omega
    · obtain ⟨zs, w, _⟩ := (CB_some.mp d1).is
      exact absurd (w.imp (lets_mono h)) ((CB_none (Nat.zero_le _)).mp e1 zs)
  · rcases K99_le (sh := sh) (r := r) (ks := ks) hn with ⟨d1, d2⟩ | ⟨k, d1, d2, d3, d4⟩
    · omega
    · obtain ⟨zs, w, ew⟩ := (CB_some.mp d1).is
      have := (CB_some.mp e1).le zs (w.imp (lets_mono h))
      omega
theorem K99_99 (hn : n ≤ 12) (h1 : 1 ≤ r) : K99 sh n r ks = 99 ↔ r < LE sh n 0 := by
  rw [← CB_none_iff h1 (c := cst ks)]
  rcases K99_le (sh := sh) (r := r) (ks := ks) hn with ⟨e1, e2⟩ | ⟨k', e1, e2, e3, e4⟩
  · exact ⟨fun _ => e1, fun _ => e2⟩
  · constructor
    · intro z; omega
    · intro z; rw [e1] at z; cases z
theorem wc_more (h : ∀ p ∈ ls, p ∈ ks) : ∀ (ys : List Nat) (f : Nat), wc (cst ks) f ys ≤ wc (cst ls) f ys
  | [], _ => Int.le_refl _
  | z :: ys, f => by
    rw [wc, wc]
    have := wc_more h ys (f + z)
    have : cst ks f (f + z) ≤ cst ls f (f + z) := by
      unfold cst
      by_cases q : ((f : Int), ((f + z : Nat) : Int) - (f : Int)) ∈ ls
      · rw [if_pos q, if_pos (h _ q)]; exact Int.le_refl _
      · rw [if_neg q]; split <;> decide
    omega
/-- rows are found anew at most as often as there are fewer kept ones -/
theorem wc_fewer : ∀ (ys : List Nat) (f : Nat) (ms : List (Int × Int)), (∀ z ∈ ys, 1 ≤ z) → (∀ p ∈ ks, p ∈ ls ∨ p ∈ ms) → wc (cst ls) f ys ≤ wc (cst ks) f ys + (ms.filter fun p => decide ((f : Int) ≤ p.1)).length
  | [], _, _, _, _ => by rw [wc, wc]; omega
  | z :: ys, f, ms, hz, h => by
    rw [wc, wc]
    have z1 := hz z (List.mem_cons_self ..)
    have ih := wc_fewer ys (f + z) ms (fun y hy => hz y (List.mem_cons_of_mem _ hy)) h
    have key : (cst ls f (f + z) - cst ks f (f + z)) + (ms.filter fun p => decide (((f + z : Nat) : Int) ≤ p.1)).length ≤ (ms.filter fun p => decide ((f : Int) ≤ p.1)).length := by
      have sub : ((ms.filter fun p => decide (((f + z : Nat) : Int) ≤ p.1))).length ≤ (ms.filter fun p => decide ((f : Int) ≤ p.1)).length := by
        rw [← List.countP_eq_length_filter, ← List.countP_eq_length_filter]
        exact List.countP_mono_left fun x _ hx => by have := decT hx; exact decide_eq_true (by omega)
      unfold cst
      by_cases q : ((f : Int), ((f + z : Nat) : Int) - (f : Int)) ∈ ls
      · rw [if_pos q]; split <;> omega
      · rw [if_neg q]
        by_cases q2 : ((f : Int), ((f + z : Nat) : Int) - (f : Int)) ∈ ks
        · rw [if_pos q2]
          have hm := (h _ q2).resolve_left q
          have lt : ((ms.filter fun p => decide (((f + z : Nat) : Int) ≤ p.1))).length < (ms.filter fun p => decide ((f : Int) ≤ p.1)).length := by
            rw [← List.countP_eq_length_filter, ← List.countP_eq_length_filter]
            obtain ⟨a, b, e⟩ := List.append_of_mem hm
            rw [e, List.countP_append, List.countP_append, List.countP_cons, List.countP_cons]
            have c1 : List.countP (fun p : Int × Int => decide (((f + z : Nat) : Int) ≤ p.1)) a ≤ List.countP (fun p => decide ((f : Int) ≤ p.1)) a := List.countP_mono_left fun x _ hx => by have := decT hx; exact decide_eq_true (by omega)
            have c2 : List.countP (fun p : Int × Int => decide (((f + z : Nat) : Int) ≤ p.1)) b ≤ List.countP (fun p => decide ((f : Int) ≤ p.1)) b := List.countP_mono_left fun x _ hx => by have := decT hx; exact decide_eq_true (by omega)
            have d1 : (if decide (((f + z : Nat) : Int) ≤ (f : Int)) = true then 1 else 0) = 0 := if_neg (by rw [decide_eq_true_iff]; omega)
            have d2 : (if decide ((f : Int) ≤ (f : Int)) = true then 1 else 0) = 1 := if_pos (by rw [decide_eq_true_iff]; omega)
            simp only at d1 d2 ⊢
            rw [d1, d2]
            omega
          omega
        · rw [if_neg q2]; omega
    omega
theorem sub_rest {α : Type} [DecidableEq α] {l m : List α} (h : l.Sublist m) (nd : m.Nodup) : ∃ ms : List α, ms.length + l.length = m.length ∧ ∀ p ∈ m, p ∈ l ∨ p ∈ ms := by
  induction h with
  | slnil => exact ⟨[], rfl, fun _ h => (nomatch h)⟩
  | @cons l m a h ih =>
    obtain ⟨ms, h1, h2⟩ := ih (List.nodup_cons.mp nd).2
    refine ⟨a :: ms, by rw [List.length_cons, List.length_cons]; omega, fun p hp => ?_⟩
    rcases List.mem_cons.mp hp with e | e
    · exact .inr (by rw [e]; exact List.mem_cons_self ..)
    · exact (h2 p e).imp id (List.mem_cons_of_mem _)
  | @cons_cons l m a h ih =>
    obtain ⟨ms, h1, h2⟩ := ih (List.nodup_cons.mp nd).2
    refine ⟨ms, by rw [List.length_cons, List.length_cons]; omega, fun p hp => ?_⟩
    rcases List.mem_cons.mp hp with e | e
    · exact .inl (by rw [e]; exact List.mem_cons_self ..)
    · exact (h2 p e).imp (List.mem_cons_of_mem _) id
theorem K99_few (hn : n ≤ 12) (hs : ls.Sublist ks) (nd : ks.Nodup) : K99 sh n r ks ≤ K99 sh n r ls ∧ (K99 sh n r ls = 99 ↔ K99 sh n r ks = 99) ∧ (K99 sh n r ks < 99 → K99 sh n r ls ≤ K99 sh n r ks + ks.length - ls.length) := by
  obtain ⟨ms, m1, m2⟩ := sub_rest hs nd
  rcases K99_le (sh := sh) (r := r) (ks := ks) hn with ⟨e1, e2⟩ | ⟨k, e1, e2, e3, e4⟩
  · rcases K99_le (sh := sh) (r := r) (ks := ls) hn with ⟨d1, d2⟩ | ⟨l, d1, d2, d3, d4⟩
    · exact ⟨by omega, ⟨fun _ => e2, fun _ => d2⟩, fun z => by omega⟩
    · obtain ⟨zs, w, _⟩ := (CB_some.mp d1).is
      exact absurd w ((CB_none (Nat.zero_le _)).mp e1 zs)
  · rcases K99_le (sh := sh) (r := r) (ks := ls) hn with ⟨d1, d2⟩ | ⟨l, d1, d2, d3, d4⟩
    · obtain ⟨zs, w, _⟩ := (CB_some.mp e1).is
      exact absurd w ((CB_none (Nat.zero_le _)).mp d1 zs)
    · refine ⟨?_, ⟨fun z => by omega, fun z => by omega⟩, fun _ => ?_⟩
      · obtain ⟨zs, w, ew⟩ := (CB_some.mp d1).is
        have a1 := (CB_some.mp e1).le zs w
        have a2 := wc_more (fun p hp => hs.subset hp) zs 0
        omega
      · obtain ⟨zs, w, ew⟩ := (CB_some.mp e1).is
        have a1 := (CB_some.mp d1).le zs w
        have a2 := wc_fewer (ks := ks) (ls := ls) zs 0 ms w.way.pos m2
        have a3 := List.length_filter_le (fun p : Int × Int => decide (((0 : Nat) : Int) ≤ p.1)) ms
        omega
end
/-! ### a changing thing is left behind after a statement -/
def sGoneA (u : WS) : WS := fun f ρ cs => u { f with nx := fun ρ' cs' => ∃ p m, look p cs' = some m ∧ f.nx ρ' (del p cs') } ρ cs
theorem ds_goneA {X : Cx} {W : WX} {st : Stmt} {u : WS} (h : DS X W st u) : DS X W st (sGoneA u) := PS.imp h fun E σ H hq => by
  obtain ⟨F, cs, ρ, f, s, re, hw, pe⟩ := hq
  refine ⟨F, cs, ρ, _, s, re, hw, ⟨fun H1 cs1 σ1 ρ1 s1 re1 h1 => ?_, pe.bk, pe.ct, pe.rt, pe.ex⟩⟩
  obtain ⟨p, m, hl, h2⟩ := h1
  obtain ⟨s2, g2, _⟩ := s1.frz hl
  exact pe.nx H1 _ σ1 ρ1 s2 (re1.mono g2) h2
section
variable {ρ : DL.Env} {cs : Cs} {u : WS} {nx bk ct : DL.Env → Cs → Prop} {rt : D → Cs → Prop} {ex : Exn → DL.Env → Cs → Prop}
theorem q_goneA (h : u ⟨fun ρ' cs' => ∃ p m, look p cs' = some m ∧ nx ρ' (del p cs'), rt, ex, bk, ct⟩ ρ cs) : sGoneA u ⟨nx, rt, ex, bk, ct⟩ ρ cs := h
theorem r_goneEx {p : Addr} {m : MO} (h : nx ρ cs) : ∃ q m', look q ((p, m) :: cs) = some m' ∧ nx ρ (del q ((p, m) :: cs)) := ⟨p, m, look_hd, by rw [del_hd]; exact h⟩
end
theorem put_2 {p q : Addr} {m x y : MO} {cs : Cs} (h : p ≠ q) : put q m ((p, x) :: (q, y) :: cs) = (p, x) :: (q, m) :: cs := by
  simp [put, h]
theorem look_2 {p q : Addr} {x y : MO} {cs : Cs} (h : p ≠ q) : look q ((p, x) :: (q, y) :: cs) = some y := by
  simp [look, h]
/-! ### costs from the beginning on -/
section
variable {R : Nat → Nat → Prop} {c : Nat → Nat → Int} {f e g : Nat} {k : Int} {zs : List Nat}
theorem LWay.snoc (h : LWay R f g zs) (h1 : f < e) (hr : R f e) : LWay R e g (zs ++ [e - f]) ∧ wc c g (zs ++ [e - f]) = wc c g zs + c f e := by
  induction h with
  | nil =>
    have e1 : f + (e - f) = e := by omega
    refine ⟨.cons (by omega) (by omega) (by rw [e1]; exact hr) (by rw [e1]; exact .nil), ?_⟩
    rw [List.nil_append, wc, wc, wc, e1]; omega
  | @cons g z zs z1 z2 z3 w ih =>
    obtain ⟨i1, i2⟩ := ih
    refine ⟨.cons z1 (by omega) z3 i1, ?_⟩
    rw [List.cons_append, wc, wc, i2]; omega
theorem LWay.unsnoc (h : LWay R e g zs) (hg : g < e) : ∃ f ys, f < e ∧ LWay R f g ys ∧ R f e ∧ wc c g zs = wc c g ys + c f e := by
  induction h with
  | nil => omega
  | @cons g z zs z1 z2 z3 w ih =>
    by_cases q : g + z = e
    · have : zs = [] := by rw [q] at w; exact w.end_
      subst this
      exact ⟨g, [], hg, .nil, by rw [← q]; exact z3, by rw [wc, wc, wc, q]; omega⟩
    · obtain ⟨f, ys, h1, h2, h3, h4⟩ := ih (by omega)
      have := h2.way.le
      exact ⟨f, z :: ys, h1, .cons z1 this z3 h2, h3, by rw [wc, wc, h4]; omega⟩
theorem CF_min (he : 0 < e) (h1 : ∃ f l, f < e ∧ R f e ∧ CB R c f 0 = some l ∧ k = l + c f e) (h2 : ∀ f l, f < e → R f e → CB R c f 0 = some l → k ≤ l + c f e) : CB R c e 0 = some k := by
  rw [CB_some]
  refine ⟨?_, fun zs w => ?_⟩
  · obtain ⟨f, l, a1, a2, a3, rfl⟩ := h1
    obtain ⟨zs, w, ew⟩ := (CB_some.mp a3).is
    obtain ⟨b1, b2⟩ := w.snoc (c := c) a1 a2
    exact ⟨_, b1, by rw [b2, ew]⟩
  · obtain ⟨f, ys, a1, a2, a3, a4⟩ := w.unsnoc (c := c) he
    obtain ⟨l, hl⟩ := isC_of (c := c) a2
    have := h2 f l a1 a3 (CB_some.mpr hl)
    have := hl.le ys a2
    omega
theorem CF_no (he : 0 < e) (h : ∀ f l, f < e → R f e → CB R c f 0 ≠ some l) : CB R c e 0 = none := by
  rw [CB_none (Nat.zero_le _)]
  intro zs w
  obtain ⟨f, ys, a1, a2, a3, a4⟩ := w.unsnoc (c := c) he
  obtain ⟨l, hl⟩ := isC_of (c := c) a2
  exact h f l a1 a3 (CB_some.mpr hl)
end
def optD : Option Int → D
  | none => .non
  | some k => .int k
/-- the numbers -/
noncomputable def numL (sh : Nat → Nat → Rat) (r : Rat) (ks : List (Int × Int)) (m : Nat) : List D := (List.range m).map fun e => optD (CB (lets sh r) (cst ks) e 0)
theorem numL_succ (sh : Nat → Nat → Rat) (r : Rat) (ks : List (Int × Int)) (m : Nat) : numL sh r ks (m + 1) = numL sh r ks m ++ [optD (CB (lets sh r) (cst ks) m 0)] := by
  unfold numL
  rw [List.range_succ, List.map_append]; rfl
theorem numL_len (sh : Nat → Nat → Rat) (r : Rat) (ks : List (Int × Int)) (m : Nat) : (numL sh r ks m).length = m := by unfold numL; rw [List.length_map, List.length_range]
theorem numL_at {sh : Nat → Nat → Rat} {r : Rat} {ks : List (Int × Int)} {m j : Nat} (h : j < m) : atD (numL sh r ks m) (j : Int) = some (optD (CB (lets sh r) (cst ks) j 0)) := atD_map (by rw [List.getElem?_range h])
theorem plL_opt {n : Nat} : ∀ l : List (Option Int), plL n (l.map optD) = true
  | [] => by simp [plL]
  | o :: l => by
    simp only [List.map_cons, plL, Bool.and_eq_true]
    exact ⟨by cases o <;> cases n <;> rfl, plL_opt l⟩
theorem plD_num {sh : Nat → Nat → Rat} {r : Rat} {ks : List (Int × Int)} {m n : Nat} (hm : m ≤ 100000) : plD (n + 1) (.lst (numL sh r ks m)) = true := by
  refine plD_lI ?_ (by rw [numL_len]; exact hm)
  unfold numL
  rw [show ((List.range m).map fun e => optD (CB (lets sh r) (cst ks) e 0)) = ((List.range m).map fun e => CB (lets sh r) (cst ks) e 0).map optD by rw [List.map_map]; rfl]
  exact plL_opt _
theorem del_2 {p q : Addr} {x y : MO} {cs : Cs} (h : p ≠ q) : del q ((p, x) :: (q, y) :: cs) = (p, x) :: cs := by
  simp [del, h]
/-! ### a test of things that are lent -/
section

def wLendT (wt : DL.WT) : DL.WT := fun ρ cs P _ => ∃ ρ', LendE cs ρ ρ' ∧ wt ρ' [] (fun k _ => P k cs) (fun _ _ => False)
theorem dt_lend {X : Cx} {W : WX} {e : Expr} {wt : DL.WT} (h : DT X W e wt) : DT X W e (wLendT wt) := PT.imp h fun σ H Q h => by
  obtain ⟨F, cs, ρ, P, Z, s, re, ⟨ρ', hl, hw⟩, pe, px⟩ := h
  exact ⟨F, [], ρ', _, _, sta_nil s, hl.rep s re, hw, fun H1 cs1 k s1 h1 => pe H1 cs k (sta_back s s1) h1, fun _ _ _ _ _ _ z => z.elim⟩
theorem r_lendT {wt : DL.WT} {ρ : DL.Env} {cs : Cs} {P : Bool → Cs → Prop} {Z : XZ} (h : ∃ ρ', LendE cs ρ ρ' ∧ wt ρ' [] (fun k _ => P k cs) (fun _ _ => False)) : wLendT wt ρ cs P Z := h
end

end DL

/-! DLN: for target in d.items(), d a data dict with tuple keys. -/
namespace DL
open PySem PySem.Spec PyProof.Rows L2
section
variable {X : Cx} {pins : List (Addr × Obj)} {σ : L2.St} {H : Hp} {s : Shared} {d : Addr} {o : Obj}
theorem frzT2 {kvs : List (List Key × V)} (I : Inv X pins σ H s) (h : H d = some (.frz o (.dT kvs))) :
    (d == sysModules) = false ∧ ∃ (es : Array DictEntry) (ep : Nat), o.data = .dict es ep ∧ s.heap.DictRaw d es ep ∧ es.size = kvs.length ∧
      ∀ (i : Nat) (k : List Key) (v : V), kvs[i]? = some (k, v) → ∃ (en : DictEntry) (q : Addr), es[i]? = some en ∧ en.key = .ref q ∧ H q = some (.tup (k.map kV)) ∧ RelV v en.val := by
  obtain ⟨hd, z, hs, xs, pr, o', es, ep, ho, hx, hdt, he, _⟩ := I.hok d _ h
  rw [hd] at ho
  cases ho
  refine ⟨hs, es, ep, hdt, ⟨_, hd, hx, hdt⟩, ?_, fun i k v e => ?_⟩
  · have l1 : es.size = xs.length := size_of_entries he
    have l2 : kvs.length = xs.length := Paired.length pr
    omega
  · obtain ⟨b, hb, e1, e2, e3⟩ := paired_get pr e
    have q := entry_at he i
    rw [hb] at q
    exact ⟨_, b.2.1, q, rfl, e2, e3⟩
/-- the pairs of a locked dict with tuple keys, each a new tuple -/
def Itit (d : Addr) (o : Obj) (kvs : List (List Key × V)) : It :=
  ⟨fun i H => H d = some (.frz o (.dT kvs)) ∧ i < kvs.length, fun i H x H' => ∃ T k v q, kvs[i]? = some (k, v) ∧ x = .ref T ∧ H q = some (.tup (k.map kV)) ∧ H T = none ∧ H' = upd H T (.tup [.ref q, v]), fun i H => H d = some (.frz o (.dT kvs)) ∧ kvs.length ≤ i⟩
end
section
variable {P : Program} {w : World} {K : PySem.W.Frag} {d : Addr} {o : Obj} {es : Array DictEntry} {ep : Nat}
theorem turn_itemsT {kvs : List (List Key × V)} {elts : List Expr} {kk : Nat} {tpos : Pos} (it : Addr) (hod : o.data = .dict es ep) :
    Turn P w K (.Tuple elts kk tpos) (Itit d o kvs) [it] it (fun i h => ∃ ok ov, IsItemIter h it d i es.size ep ok ov) where
  mem := by simp
  obj := fun i h st b hb => by
    have e : b = it := by simpa using hb
    subst e
    obtain ⟨ok, ov, e⟩ := st
    exact ⟨_, e, fun v z => nomatch z⟩
  keep := fun i h h' st k => let ⟨ok, ov, e⟩ := st; ⟨ok, ov, k it (by simp) _ e⟩
  item := by
    intro X hP hw hK hc i pins s σ H E I hf st hg
    subst hP hw hK
    obtain ⟨hd, hi⟩ := hg
    obtain ⟨hs, es', ep', hdt, hm, hsz, ent⟩ := frzT2 I hd
    obtain ⟨rfl, rfl⟩ := dict_ep hod hdt
    obtain ⟨⟨k, v⟩, hkv⟩ : ∃ p, kvs[i]? = some p := ⟨kvs[i], List.getElem?_eq_getElem hi⟩
    obtain ⟨en, q, hen, hkey, hq, rv⟩ := ent i k v hkv
    obtain ⟨hlt0, hen⟩ := Array.getElem?_eq_some_iff.mp hen
    obtain ⟨ok, ov, he⟩ := st
    have hlt : it < s.heap.objs.size := Heap.lt_size he
    refine wpAny_pyNext_items_item_raw he hm hlt0 fun h' ho hT hz hk => ?_
    rw [hen, hkey] at ho hT
    refine ⟨_, rfl, wpAny_letOwnedTupleGo_items (s := { s with heap := h' }) ho fun h'' he' sb => ?_⟩
    have hT2 : h''.get? s.heap.objs.size = some { cls := .type "tuple", data := .seq #[.ref q, en.val] } := (sb.2 _ (Nat.ne_of_gt hlt)).trans hT
    have new : ObjOk X.prog X.w (upd H s.heap.objs.size (.tup [.ref q, v])) h'' s.heap.objs.size (.tup [.ref q, v]) :=
      ⟨by show 2 ≤ sizeLine; decide, [.ref q, en.val], .cons rfl (.cons rv .nil), ⟨_, hT2, rfl, _, rfl⟩⟩
    have I1 : Inv X pins σ (upd H s.heap.objs.size (.tup [.ref q, v])) { s with heap := h'' } :=
      I.turnedNew (t' := s.toks) (ch := [it]) (fun b ob hb e => (sb.2 b (by simpa using hb)).trans (hk b ob (by simpa using hb) e)) hf (Nat.le_refl _) new
    refine ⟨.ref s.heap.objs.size, _, I1, rfl, ⟨_, k, v, q, hkv, rfl, hq, I.hok.fresh (Nat.le_refl _), rfl⟩, ⟨_, _, he'⟩, fun b hb => ?_⟩
    have e : b = it := by simpa using hb
    rw [e, upd_ne (Nat.ne_of_lt hlt)]
    exact (hf it (by simp)).1
  done := by
    intro X hP hw hK hc i pins s σ H E I hf st hg
    subst hP hw hK
    obtain ⟨hd, hi⟩ := hg
    obtain ⟨f0, f1, f2, f3, f4, f5⟩ := hf it (by simp)
    obtain ⟨hs, es', ep', hdt, hm, hsz, ent⟩ := frzT2 I hd
    obtain ⟨rfl, rfl⟩ := dict_ep hod hdt
    obtain ⟨ok, ov, he⟩ := st
    exact wpAny_pyNext_items_end_raw (I.ok.hd hc) he hm (by omega) fun h' eb => ⟨rfl, I.turned (t' := s.toks) (fun b ob hb e => eb b ob hb e) f0 f1 f3 f4 f5⟩
  self := fun A i s Q E st h => let ⟨_, _, e⟩ := st; PySem.W.kcp_self e h
end
def iItemsT (td : TE) : TI := fun σ H R => td σ H fun x H1 => ∃ d o kvs, x = .ref d ∧ H1 d = some (.frz o (.dT kvs)) ∧ R (Itit d o kvs) H1
section
variable {X : Cx} {W : WX} {K : PySem.W.Frag} {e : Expr} {td : TE} {we : DL.WE} {apos cpos : Pos}
theorem pi_itemsT {elts : List Expr} {kk : Nat} {tpos : Pos} (he : PE X e td) (hbase : attributeBase e "items" X.env (eval e X.env) = eval e X.env := by rfl) (hline : (apos.endLine == cpos.line) = true := by rfl) :
    PI X (.Tuple elts kk tpos) (.Call (.Attribute e "items" apos) [] [] cpos) (iItemsT td) := by
  refine ⟨fun pins s σ H R I h => ?_⟩
  refine wpAny_Call_method (T := "dict") (id := "dict.items") hbase rfl hline F.plainAttrs_dict F.slot_dict_items F.type_dict_items (thn (he.run pins s σ H _ I h) fun u s1 ⟨x, H1, I1, rx, d, o, kvs, ex, hd, q⟩ => ?_)
  subst ex
  obtain rfl : u = Value.ref d := rx
  obtain ⟨hs, es, ep, hdt, hm, hsz, ent⟩ := frzT2 I1 hd
  refine ⟨hm.typeIs, ?_, ?_⟩
  · intro b e
    cases e
    obtain ⟨o, ho, hc, _⟩ := hm
    exact ⟨o, ho, hc.2.1⟩
  have I2 : Inv X pins σ H1 { s1 with heap := s1.heap.push { cls := .type "dict_items", data := .fields #[.ref d] } } := I1.kept (t' := s1.toks) fun b ob q => Heap.get?_push_of_some _ q
  have fin : wpAny (model X.prog X.w) X.A (pyIter (.ref s1.heap.objs.size)) (PIE X pins σ (.Tuple elts kk tpos) R) X.xe { s1 with heap := s1.heap.push { cls := .type "dict_items", data := .fields #[.ref d] } } := by
    refine wpAny_pyIter_items_raw (d := d) ⟨_, Heap.get?_push_size _ rfl, rfl, rfl⟩ (hm.push _) (pi_one (tk := s1.toks) I2 _ (turn_itemsT _ hdt) ⟨.none, .none, ?_⟩ q)
    exact Heap.get?_push_size _ rfl
  show wpAny _ _ (callWith cpos (.builtin "dict.items") [.ref d] [] []) _ X.xe s1
  exact method_meetsIn F.slot_dict_items F.entry_dict_items rfl (PySem.evalArgs_none ⟨rfl, hm.typeIs, F.args_dict_items_1 _, _, meets_dict_items_raw d hs, ⟨es, ep, hm⟩, fin⟩)
theorem RG.getV {κ : Type} {G : Hp} {xs : List (κ × V)} {ds : List (κ × D)} (h : RG K G xs ds) : ∀ {i : Nat} {k : κ} {v : V}, xs[i]? = some (k, v) → ∃ d, ds[i]? = some (k, d) ∧ Rep K G v d := by
  induction h with
  | nil => intro i k v e; simp at e
  | cons r _ ih =>
    intro i k v e
    cases i with
    | zero => cases e; exact ⟨_, rfl, r⟩
    | succ j => exact ih e
theorem RG.len {κ : Type} {G : Hp} {xs : List (κ × V)} {ds : List (κ × D)} (h : RG K G xs ds) : xs.length = ds.length := by
  induction h with
  | nil => rfl
  | cons _ _ ih => rw [List.length_cons, List.length_cons, ih]
theorem yi_itemsT {G : Hp} {a : Addr} {o : Obj} {xs : List (List Key × V)} {ds : List (List Key × D)} (h : G a = some (.frz o (.dT xs))) (q : RG K G xs ds) : YI K (Itit a o xs) G (ds.map fun p => D.tup [D.tup (p.1.map kD), p.2]) where
  go := fun i d e F cs H s => by
    have z := (List.getElem?_eq_some_iff.mp e).1
    rw [List.length_map, ← q.len] at z
    exact ⟨pur_le _ _ (s.gr _ _ h), z⟩
  yld := fun i d e F cs H x H' s hy => by
    obtain ⟨T, k, v, r, e1, rfl, e2, hT, rfl⟩ := hy
    obtain ⟨dv, e3, rv⟩ := q.getV e1
    rw [List.getElem?_map, e3] at e
    cases e
    have e4 := tup_pur s e2
    obtain ⟨s2, e5⟩ := s.new (o := .tup [_, _]) hT
    have rk : Rep K (pur F cs H) (.ref r) (.tup (k.map kD)) := .tup (SqT.of e4) (ksD_rep k)
    exact ⟨s2, .tup (SqT.of e5) (.cons (rk.mono s2.gr) (.cons (rv.mono (s.gr.trans s2.gr)) .nil))⟩
  stop := fun F cs H s => ⟨pur_le _ _ (s.gr _ _ h), by rw [List.length_map, q.len]; exact Nat.le_refl _⟩
theorem yi_itemsK {G : Hp} {a : Addr} {o : Obj} {xs : List (Key × V)} {ds : List (Key × D)} (h : G a = some (.frz o (.dK xs))) (q : RG K G xs ds) : YI K (Iti a o xs) G (ds.map fun p => D.tup [kD p.1, p.2]) where
  go := fun i d e F cs H s => by
    have z := (List.getElem?_eq_some_iff.mp e).1
    rw [List.length_map, ← q.len] at z
    exact ⟨pur_le _ _ (s.gr _ _ h), z⟩
  yld := fun i d e F cs H x H' s hy => by
    obtain ⟨T, k, v, e1, rfl, hT, rfl⟩ := hy
    obtain ⟨dv, e3, rv⟩ := q.getV e1
    rw [List.getElem?_map, e3] at e
    cases e
    obtain ⟨s2, e5⟩ := s.new (o := .tup [_, _]) hT
    exact ⟨s2, .tup (SqT.of e5) (.cons (kD_rep k) (.cons (rv.mono (s.gr.trans s2.gr)) .nil))⟩
  stop := fun F cs H s => ⟨pur_le _ _ (s.gr _ _ h), by rw [List.length_map, q.len]; exact Nat.le_refl _⟩
def iItT (we : DL.WE) : WI := fun ρ cs P Z => we ρ cs (fun d cs1 => match d with
  | .dct kvs => P (kvs.map fun p => D.tup [D.tup (p.1.map kD), p.2]) cs1
  | _ => False) Z
def iItK (we : DL.WE) : WI := fun ρ cs P Z => we ρ cs (fun d cs1 => match d with
  | .dic kvs => P (kvs.map fun p => D.tup [kD p.1, p.2]) cs1
  | _ => False) Z
theorem di_itemsT {elts : List Expr} {kk : Nat} {tpos : Pos} (h : DE X W e we) (hbase : attributeBase e "items" X.env (eval e X.env) = eval e X.env := by rfl) (hline : (apos.endLine == cpos.line) = true := by rfl) :
    DI X W (.Tuple elts kk tpos) (.Call (.Attribute e "items" apos) [] [] cpos) (iItT we) := PI.imp (pi_itemsT h hbase hline) fun σ H R hq => by
  obtain ⟨F, cs, ρ, P, Z, s, re, hw, pe, px⟩ := hq
  refine ⟨F, cs, ρ, _, Z, s, re, hw, fun H1 cs1 v d s1 r1 h1 => ?_, px⟩
  cases d <;> try exact h1.elim
  cases r1 with
  | dct e1 q => exact ⟨_, _, _, rfl, pur_le _ _ e1, pe H1 cs1 _ _ s1 (yi_itemsT e1 q.rg) h1⟩
theorem di_itemsK {elts : List Expr} {kk : Nat} {tpos : Pos} (h : DE X W e we) (hbase : attributeBase e "items" X.env (eval e X.env) = eval e X.env := by rfl) (hline : (apos.endLine == cpos.line) = true := by rfl) :
    DI X W (.Tuple elts kk tpos) (.Call (.Attribute e "items" apos) [] [] cpos) (iItK we) := PI.imp (pi_items h hbase hline) fun σ H R hq => by
  obtain ⟨F, cs, ρ, P, Z, s, re, hw, pe, px⟩ := hq
  refine ⟨F, cs, ρ, _, Z, s, re, hw, fun H1 cs1 v d s1 r1 h1 => ?_, px⟩
  cases d <;> try exact h1.elim
  cases r1 with
  | dic e1 q => exact ⟨_, _, _, rfl, pur_le _ _ e1, pe H1 cs1 _ _ s1 (yi_itemsK e1 q.rg) h1⟩
theorem r_itT {ρ : DL.Env} {cs : Cs} {R : List D → Cs → Prop} {Z : XZ} (h : we ρ cs (fun d cs1 => match d with
  | .dct kvs => R (kvs.map fun p => D.tup [D.tup (p.1.map kD), p.2]) cs1
  | _ => False) Z) : iItT we ρ cs R Z := h
theorem r_itK {ρ : DL.Env} {cs : Cs} {R : List D → Cs → Prop} {Z : XZ} (h : we ρ cs (fun d cs1 => match d with
  | .dic kvs => R (kvs.map fun p => D.tup [kD p.1, p.2]) cs1
  | _ => False) Z) : iItK we ρ cs R Z := h
end
/-! ### told numbers that show the least costs -/
def ShownP (sh : Nat → Nat → Rat) (r : Rat) (ks : List (Int × Int)) (n : Nat) (ts : List (Option Int)) : Prop := ts.length = n + 1 ∧ ts[0]? = some (some 0) ∧ ∀ f e l, f < e → e ≤ n → lets sh r f e → ts[f]? = some (some l) → ∃ m, ts[e]? = some (some m) ∧ m ≤ l + cst ks f e
open Classical in
noncomputable def shownB (sh : Nat → Nat → Rat) (r : Rat) (ks : List (Int × Int)) (n : Nat) (ts : List (Option Int)) : Bool := decide (ShownP sh r ks n ts)
section
variable {sh : Nat → Nat → Rat} {r : Rat} {ks : List (Int × Int)} {n : Nat} {ts : List (Option Int)}
open Classical in
theorem shownB_t (h : ShownP sh r ks n ts) : shownB sh r ks n ts = true := by unfold shownB; exact decide_eq_true h
open Classical in
theorem shownB_f (h : ¬ ShownP sh r ks n ts) : shownB sh r ks n ts = false := by unfold shownB; exact decide_eq_false h
theorem opt_at {i : Nat} {o : Option Int} (h : ts[i]? = some o) : atD (ts.map optD) (i : Int) = some (optD o) := atD_map h
theorem r_neO {o : Option Int} {i : Int} {cs : Cs} {P : DP} (h : P (.bl (!decide (o = some i))) cs) : oNe (optD o) (.int i) cs P := by
  cases o with
  | none => exact ⟨rfl, rfl, h⟩
  | some j =>
    refine r_neI ?_
    rw [show decide (j = i) = decide (some j = some i) by simp]
    exact h
end
/-! ### x or y by truth -/
section
variable {X : Cx} {W : WX} {K : PySem.W.Frag} {a b : Expr} {rest : List Expr} {pos : Pos} {wa wb : DL.WE}
def truD : D → Option Bool
  | .non => some false
  | .bl k => some k
  | .int i => some (i != 0)
  | .str x => if x.length ≤ 1000 then some ((x.length : Int) != 0) else none
  | .lst xs => some (!xs.isEmpty)
  | .tup xs => some (!xs.isEmpty)
  | _ => none
theorem tru_rep {F H : Hp} {cs : Cs} {v : V} {d : D} {k : Bool} (r : Rep K (pur F cs H) v d) (h : truD d = some k) : TruV K v H k := by
  cases d <;> try first | (cases h; done) | (cases h; cases r; rfl)
  · rename_i x
    have h : (if x.length ≤ 1000 then some ((x.length : Int) != 0) else none) = some k := h
    split at h
    · rename_i hl
      cases h
      cases r
      exact ⟨small_es hl, rfl⟩
    · cases h
  · cases h
    cases r with
    | tup h r => exact .inr (.inl ⟨_, ex_t pur_le h, by cases r <;> rfl⟩)
  · cases h
    cases r with
    | lst h r => exact .inl ⟨_, ex_l pur_le h, by cases r <;> rfl⟩
def wOrT (wa wb : DL.WE) : DL.WE := fun ρ cs P Z => wa ρ cs (fun x cs1 => ∃ k, truD x = some k ∧ (k = true → P x cs1) ∧ (k = false → wb ρ cs1 P Z)) Z
theorem d_orT (ha : DE X W a wa) (hb : DE X W (.BoolOp .Or (b :: rest) pos) wb) : DE X W (.BoolOp .Or (a :: b :: rest) pos) (wOrT wa wb) :=
  PE.imp (pe_orT ha hb) fun σ H Q h => by
    obtain ⟨F, cs, ρ, P, Z, s, re, hw, pe, px⟩ := h
    refine ⟨F, cs, ρ, _, Z, s, re, hw, fun H1 cs1 v d s1 r1 h1 => ?_, px⟩
    obtain ⟨k, hk, h2, h3⟩ := h1
    refine ⟨k, tru_rep r1 hk, ?_⟩
    cases k with
    | true => exact iteT (pe H1 cs1 _ _ s1 r1 (h2 rfl))
    | false => exact iteF ⟨F, cs1, ρ, P, Z, s1.self, re.mono s1.gr, h3 rfl, pe.le s1.gr, px.le s1.gr⟩
theorem r_orT {ρ : DL.Env} {cs : Cs} {P : DP} {Z : XZ} (h : wa ρ cs (fun x cs1 => ∃ k, truD x = some k ∧ (k = true → P x cs1) ∧ (k = false → wb ρ cs1 P Z)) Z) : wOrT wa wb ρ cs P Z := h
end
/-! ### a list that changes no more after a statement -/
def sFrzA (i : Nat) (u : WS) : WS := fun f ρ cs => u { f with nx := fun ρ' cs' => ∃ p xs, ρ'[i]? = some (some (.opq (.ref p))) ∧ look p cs' = some (.lst xs) ∧ f.nx (ρ'.set i (some (.lst xs))) (del p cs') } ρ cs
theorem set_same {α : Type} : ∀ {l : List α} {i : Nat} {x : α}, l[i]? = some x → l.set i x = l
  | [], _, _, e => by cases e
  | _ :: _, 0, _, e => by cases e; rfl
  | a :: l, i + 1, x, e => by rw [List.set_cons_succ, set_same (l := l) (i := i) e]
theorem ds_frzA {X : Cx} {W : WX} {st : Stmt} {u : WS} (i : Nat) (h : DS X W st u) : DS X W st (sFrzA i u) := PS.imp h fun E σ H hq => by
  obtain ⟨F, cs, ρ, f, s, re, hw, pe⟩ := hq
  refine ⟨F, cs, ρ, _, s, re, hw, ⟨fun H1 cs1 σ1 ρ1 s1 re1 h1 => ?_, pe.bk, pe.ct, pe.rt, pe.ex⟩⟩
  obtain ⟨p, xs, hi, hl, h2⟩ := h1
  obtain ⟨v, hv, rv⟩ := re1.get hi
  cases rv
  obtain ⟨s2, g2, o, ho, m⟩ := s1.frz hl
  cases o <;> try exact m.elim
  have re2 := (re1.mono g2).set (Rep.lst (SqL.of ho) m) i
  rw [set_same hv] at re2
  exact pe.nx H1 _ σ1 _ s2 re2 h2
theorem q_frzA {i : Nat} {ρ : DL.Env} {cs : Cs} {u : WS} {nx bk ct : DL.Env → Cs → Prop} {rt : D → Cs → Prop} {ex : Exn → DL.Env → Cs → Prop} (h : u ⟨fun ρ' cs' => ∃ p xs, ρ'[i]? = some (some (.opq (.ref p))) ∧ look p cs' = some (.lst xs) ∧ nx (ρ'.set i (some (.lst xs))) (del p cs'), rt, ex, bk, ct⟩ ρ cs) : sFrzA i u ⟨nx, rt, ex, bk, ct⟩ ρ cs := h
end DL

/-! DLMi: min of a list of data by a key, sorted of a list of tuples of ints. -/
namespace DL
open PySem PySem.Spec PyProof.Rows L2 PySem.Calls PySem.W
section
variable {prog : Program} {w : World} {A : Around} {E : Value → Shared → Prop} {s : Shared}
theorem min_list_ix {l : Addr} {vs : Array Value} {xs : List PyData} {as : List Addr} {Q : Value → Shared → Prop} (hh : A.handled = none) (hl : s.heap.IsList l vs) (hr : ReadsAll s.heap vs.toList xs as) (h0 : 0 < xs.length) (ha : AlikeAll xs) (hu : A.units + 1 + PyData.depthAll xs < cLine)
    (h : ∀ v h' tk, vs[argBest (fun i j => dataLt (xs.getD i .none) (xs.getD j .none)) (xs.length - 1)]? = some v → (∀ b o, s.heap.get? b = some o → h'.get? b = some o) → Q v { s with heap := h', toks := tk }) :
    wpAny (model prog w) A (call (.builtin "min") [.ref l]) Q E s := by
  have hn : vs.size = xs.length := readsAll_len hr
  refine call_min_walkH (iter_listW (A := A.in1) hh hl fun s₂ e W st hfp hw hk => ?_)
  refine ⟨_, _, _, _, _, _, _, s.heap, _, rfl, W, st, hfp, by omega, hw, hk, cmpIn_lt (A := A.in1) hr ha (by show A.units + 1 + _ < _; exact hu), fun v s' hP m => ?_⟩
  obtain ⟨h', tk, rfl, hk'⟩ := moved_old e rfl m
  exact h v h' tk (by rw [← hn]; exact hP) hk'
end
theorem argBest_congr {f g : Nat → Nat → Bool} : ∀ (k : Nat), (∀ i j, i ≤ k → j ≤ k → f i j = g i j) → argBest f k = argBest g k ∧ argBest g k ≤ k
  | 0, _ => ⟨rfl, Nat.le_refl _⟩
  | k + 1, h => by
    obtain ⟨e1, e2⟩ := argBest_congr k fun i j hi hj => h i j (by omega) (by omega)
    unfold argBest
    rw [e1, h (k + 1) (argBest g k) (Nat.le_refl _) (by omega)]
    refine ⟨rfl, ?_⟩
    split <;> omega
theorem argBest_key (key : Nat → Int) : ∀ (k : Nat), ∀ j, j ≤ k → key (argBest (fun i j => decide (key i < key j)) k) ≤ key j
  | 0, j, h => by rw [show j = 0 by omega]; exact Int.le_refl _
  | k + 1, j, h => by
    have ih := argBest_key key k
    unfold argBest
    by_cases q : key (k + 1) < key (argBest (fun i j => decide (key i < key j)) k)
    · rw [if_pos (decide_eq_true q)]
      by_cases e : j = k + 1
      · rw [e]; exact Int.le_refl _
      · have := ih j (by omega)
        omega
    · rw [if_neg (by simpa using q)]
      by_cases e : j = k + 1
      · rw [e]; omega
      · exact ih j (by omega)
section
variable {X : Cx}
def rMinD (K : PySem.W.Frag) : List V → Hp → VK → Prop := fun vs H Q => ∃ (a : Addr) (ws : List V) (xs : List PyData) (key : Nat → Int), vs = [V.ref a] ∧ SqL K H a ws ∧ DpAll K H ws xs ∧ 0 < xs.length ∧ AlikeAll xs ∧ PyData.depthAll xs ≤ 32 ∧
  (∀ i j, i < xs.length → j < xs.length → dataLt (xs.getD i .none) (xs.getD j .none) = decide (key i < key j)) ∧ ∀ i v, i < xs.length → ws[i]? = some v → (∀ j, j < xs.length → key i ≤ key j) → Q v H
theorem cr_minD (hc : X.calm = true) (hu : X.A.units + 64 < cLine) : CallR X (.builtin "min") (rMinD X.K) := by
  intro pins s σ H vs us Q I r h
  obtain ⟨a, ws, xs, key, rfl, hs, hd, h0, al, dp, hk, q⟩ := h
  obtain ⟨its, rv, hl, _⟩ := I.list hs
  obtain ⟨as, hr⟩ := Dp.readsAll I xs ws its hd rv
  rw [Vals.ref1 r]
  have hl2 : its.length = xs.length := by simpa using readsAll_len (vs := its.toArray) (by simpa using hr)
  refine min_list_ix (I.ok.hd hc) hl.isList (by simpa using hr) h0 al (by omega) fun v h' tk hv hk' => ?_
  obtain ⟨e1, e2⟩ := argBest_congr (xs.length - 1) (f := fun i j => dataLt (xs.getD i .none) (xs.getD j .none)) (g := fun i j => decide (key i < key j)) fun i j hi hj => hk i j (by omega) (by omega)
  rw [e1] at hv
  generalize hm : argBest (fun i j => decide (key i < key j)) (xs.length - 1) = m at hv e2
  have hlw : ws.length = xs.length := by rw [rv.length]; exact hl2
  have hw : ws[m]? = some (ws[m]'(by omega)) := List.getElem?_eq_getElem (by omega)
  have hv' : its[m]? = some v := by simpa using hv
  have rw_ : L2.RelV (ws[m]'(by omega)) v := by
    obtain ⟨u, hu, ru⟩ := rv.get hw
    rw [hv'] at hu
    cases hu
    exact ru
  exact ⟨_, H, I.kept hk', rw_, q m _ (by omega) hw fun j hj => by rw [← hm]; exact argBest_key key _ j (by omega)⟩
end
section
variable {K : PySem.W.Frag}
def oMinD : DOn := fun ds cs P => ∃ (d : D) (xs : List D) (key : Nat → Int), ds = [d] ∧ lstOf cs d = some xs ∧ 0 < xs.length ∧ plL 20 xs = true ∧ AlikeAll (pyL xs) ∧
  (∀ i j x y, xs[i]? = some x → xs[j]? = some y → dataLt (pyD x) (pyD y) = decide (key i < key j)) ∧ ∀ i x, xs[i]? = some x → (∀ j, j < xs.length → key i ≤ key j) → P x cs
theorem pyL_len : ∀ xs : List D, (pyL xs).length = xs.length
  | [] => rfl
  | _ :: xs => congrArg Nat.succ (pyL_len xs)
theorem pyL_get : ∀ {xs : List D} {i : Nat} {x : D}, xs[i]? = some x → (pyL xs)[i]? = some (pyD x)
  | _ :: _, 0, _, h => by simp at h; subst h; rfl
  | _ :: xs, i + 1, _, h => by
    have := pyL_get (xs := xs) (i := i) (by simpa using h)
    simpa [pyL] using this
theorem adq_minD : AdqN K (rMinD K) oMinD := fun F cs H xs ds P Q s r ho pe => by
  obtain ⟨d, ys, key, rfl, hl, h0, hp, ha, hk, h⟩ := ho
  cases r with
  | cons r1 r2 =>
  cases r2
  obtain ⟨p, vs, rfl, h1, h2⟩ := lstOf_sq s r1 hl
  have gd : ∀ i, i < (pyL ys).length → ∃ y, ys[i]? = some y ∧ (pyL ys).getD i .none = pyD y := fun i hi => by
    rw [pyL_len] at hi
    have e : ys[i]? = some (ys[i]'hi) := List.getElem?_eq_getElem hi
    refine ⟨_, e, ?_⟩
    rw [List.getD_eq_getElem?_getD, pyL_get e]; rfl
  refine ⟨p, vs, pyL ys, key, rfl, h1, RepL.dp pur_le 20 h2 hp, by rw [pyL_len]; exact h0, ha, Nat.le_trans (plL_plain ys 20 hp).2 (by decide), fun i j hi hj => ?_, fun i v hi hv hm => ?_⟩
  · obtain ⟨x, e1, g1⟩ := gd i hi
    obtain ⟨y, e2, g2⟩ := gd j hj
    rw [g1, g2]
    exact hk i j x y e1 e2
  · obtain ⟨x, e1, g1⟩ := gd i hi
    obtain ⟨v', hv', rv⟩ := h2.get e1
    rw [hv] at hv'
    cases hv'
    exact pe H cs _ _ s rv (h i x e1 fun j hj => hm j (by rw [pyL_len]; exact hj))
end
/-! ### sorted of a list of tuples of ints -/
section
variable {X : Cx}
def encT (z : List Int) : PyData := .tuple (z.map .int)
def leZ (a b : List Int) : Bool := decide (a ≤ b)
theorem leZ_eq : PySem.W.dataLe false encT = leZ := by
  funext p q
  show (!dataLt (.list (q.map .int)) (.list (p.map .int))) = _
  have e := congrFun (congrFun (PySem.W.dataLe_rows (fun b : List Int => b)) p) q
  exact e
inductive Ws (R : V → List Int → Prop) : List V → List (List Int) → Prop
  | nil : Ws R [] []
  | cons {v : V} {z : List Int} {vs : List V} {zs : List (List Int)} : R v z → Ws R vs zs → Ws R (v :: vs) (z :: zs)
def rSortZ (K : PySem.W.Frag) : List V → Hp → VK → Prop := fun vs H Q => ∃ (a : Addr) (ws : List V) (zs : List (List Int)) (R : V → List Int → Prop), vs = [V.ref a] ∧ SqL K H a ws ∧ Ws R ws zs ∧ (∀ w z, R w z → Dp K H w (encT z)) ∧ (∀ z ∈ zs, z ≠ []) ∧ zs.length ≤ 100000 ∧
  ∀ ws' p, H p = none → Ws R ws' (zs.mergeSort leZ) → Q (.ref p) (upd H p (.lst ws'))
theorem Ws.each {R : V → List Int → Prop} : ∀ {ws : List V} {zs : List (List Int)} {us : List Value}, Ws R ws zs → Vals ws us → PySem.W.EachIs (fun u z => ∃ w, R w z ∧ L2.RelV w u) us zs
  | _, _, _, .nil, r => by cases r; exact .nil
  | _, _, _, .cons h hs, r => by
    cases r with
    | cons r1 r2 => exact .cons ⟨_, h, r1⟩ (hs.each r2)
theorem Ws.back {R : V → List Int → Prop} : ∀ {zs : List (List Int)} {us : List Value}, PySem.W.EachIs (fun u z => ∃ w, R w z ∧ L2.RelV w u) us zs → ∃ ws, Ws R ws zs ∧ Vals ws us
  | _, _, .nil => ⟨[], .nil, .nil⟩
  | _, _, .cons ⟨w, h, r⟩ hs => by
    obtain ⟨ws, h1, h2⟩ := Ws.back hs
    exact ⟨w :: ws, .cons h h1, .cons r h2⟩
theorem Ws.len {R : V → List Int → Prop} : ∀ {ws : List V} {zs : List (List Int)}, Ws R ws zs → ws.length = zs.length
  | _, _, .nil => rfl
  | _, _, .cons _ h => congrArg Nat.succ h.len
theorem encT_depth (z : List Int) : (encT z).depth ≤ 1 := by
  unfold encT
  simp only [PyData.depth]
  rw [PySem.W.depth_ints]
  exact Nat.le_refl _
theorem cr_sortZ (hu : X.A.units + 64 < cLine) : CallR X (.builtin "sorted") (rSortZ X.K) := by
  intro pins s σ H vs us Q I r h
  obtain ⟨a, ws, zs, R, rfl, hs, hw, hd, hne, hL, q⟩ := h
  obtain ⟨its, rv, hl, _⟩ := I.list hs
  have he := hw.each rv
  have her : PySem.W.EachIs (fun v b => ∃ as, Reads s.heap v (encT b) as) its zs := he.mono fun u z ⟨w, h1, h2⟩ => Dp.reads I _ w u (hd w z h1) h2
  have hsl : zs.length ≤ sizeLine := by rw [sizeLine_eq]; omega
  rw [Vals.ref1 r]
  refine PySem.W.sorted_data (enc := encT) hl.isList he her (fun d hd d' hd' => ?_) (.inl fun d hd => ?_) hsl (fun b hb => by have := encT_depth b; omega) fun out hout ho => ?_
  · obtain ⟨b, _, rfl⟩ := List.mem_map.mp hd
    obtain ⟨b', _, rfl⟩ := List.mem_map.mp hd'
    unfold encT
    rw [alike]
    exact PySem.W.alike_ints b b'
  · obtain ⟨b, hb, rfl⟩ := List.mem_map.mp hd
    cases b with
    | nil => exact absurd rfl (hne _ hb)
    | cons x xs => exact ⟨.int x, xs.map .int, rfl⟩
  · rw [leZ_eq] at ho
    obtain ⟨ws', h1, h2⟩ := Ws.back ho
    obtain ⟨ep, he'⟩ := PyProof.Rows.sortedAll_at s.heap its out.toArray
    have hlen : ws'.length ≤ sizeLine := by rw [h2.length, hout]; exact hsl
    exact ⟨.ref _, upd H (s.heap.objs.size + 1) (.lst ws'), I.laid (t' := s.toks) (fun _ _ => PyProof.Rows.sortedAll_old) (Nat.le_succ _) ⟨hlen, out, ep, h2, by simpa using he'⟩, rfl, q ws' _ (I.hok.fresh (Nat.le_succ _)) h1⟩
end
section
variable {K : PySem.W.Frag}
def zD (z : List Int) : D := .tup (z.map D.int)
def oSortZ : DOn := fun ds cs P => ∃ (d : D) (zs : List (List Int)), ds = [d] ∧ lstOf cs d = some (zs.map zD) ∧ (∀ z ∈ zs, z ≠ []) ∧ zs.length ≤ 100000 ∧ (∀ z ∈ zs, z.length ≤ 100000) ∧ P (.lst ((zs.mergeSort leZ).map zD)) cs
theorem py_ints : ∀ z : List Int, pyL (z.map D.int) = z.map .int
  | [] => rfl
  | x :: z => by rw [List.map_cons, List.map_cons, pyL, py_ints z, pyD]
theorem ws_of {G : Hp} : ∀ {vs : List V} {zs : List (List Int)}, (∀ z ∈ zs, z.length ≤ 100000) → RepL K G vs (zs.map zD) → Ws (fun v z => Rep K G v (zD z) ∧ z.length ≤ 100000) vs zs
  | _, [], _, .nil => .nil
  | _, _ :: _, hz, .cons h r => .cons ⟨h, hz _ (List.mem_cons_self ..)⟩ (ws_of (fun z h => hz z (List.mem_cons_of_mem _ h)) r)
theorem of_ws {G : Hp} : ∀ {vs : List V} {zs : List (List Int)}, Ws (fun v z => Rep K G v (zD z) ∧ z.length ≤ 100000) vs zs → RepL K G vs (zs.map zD)
  | _, _, .nil => .nil
  | _, _, .cons h r => .cons h.1 (of_ws r)
theorem adq_sortZ : AdqN K (rSortZ K) oSortZ := fun F cs H xs ds P Q s r ho pe => by
  obtain ⟨d, zs, rfl, hl, hne, hL, hz, h⟩ := ho
  cases r with
  | cons r1 r2 =>
  cases r2
  obtain ⟨p, vs, rfl, h1, h2⟩ := lstOf_sq s r1 hl
  refine ⟨p, vs, zs, _, rfl, h1, ws_of hz h2, fun w z hw => ?_, hne, hL, fun ws' q hq hw' => ?_⟩
  · have := Rep.dp (pur_le (F := F) (cs := cs)) 20 hw.1 (plD_tI (plL_ints z) (by rw [List.length_map]; exact hw.2))
    exact (show pyD (zD z) = encT z by unfold zD encT; simp only [pyD]; rw [py_ints]) ▸ this
  · obtain ⟨s2, e2⟩ := s.new (o := .lst ws') hq
    exact pe _ cs _ _ s2 (.lst (SqL.of e2) ((of_ws hw').mono s2.gr)) h
end
/-! ### (cost, sizes): the least -/
def entD (c : Int) (z : Nat) (zs : List Nat) : D := .tup [.int c, .tup (natD z :: zs.map natD)]
theorem py_nats : ∀ z : List Nat, pyL (z.map natD) = (natI z).map .int
  | [] => rfl
  | x :: z => by
    have := py_nats z
    unfold natI at this ⊢
    rw [List.map_cons, List.map_cons, List.map_cons, pyL, this]
    rfl
theorem py_ent (c : Int) (z : Nat) (zs : List Nat) : pyD (entD c z zs) = .tuple [.int c, encT (natI (z :: zs))] := by
  unfold entD encT
  have := py_nats (z :: zs)
  rw [List.map_cons] at this
  simp only [pyD, pyL] at this ⊢
  rw [this]
theorem ent_alike (c c' : Int) (z z' : Nat) (zs zs' : List Nat) : alike (pyD (entD c z zs)) (pyD (entD c' z' zs')) = true := by
  rw [py_ent, py_ent]
  have e := PySem.W.alike_ints (natI (z :: zs)) (natI (z' :: zs'))
  simp only [alike, alikeAll, encT, e, Bool.and_self]
theorem ent_lt {c c' : Int} {z z' : Nat} {zs zs' : List Nat} (h1 : z < 100) (h2 : z' < 100) (hz : z = z' → zs = zs') : dataLt (pyD (entD c z zs)) (pyD (entD c' z' zs')) = decide (c * 100 + (z : Int) < c' * 100 + (z' : Int)) := by
  have al : alike (encT (natI (z :: zs))) (encT (natI (z' :: zs'))) = true := by
    unfold encT
    rw [alike]
    exact PySem.W.alike_ints _ _
  have lt : dataLt (encT (natI (z :: zs))) (encT (natI (z' :: zs'))) = decide (natI (z :: zs) < natI (z' :: zs')) := PySem.W.dataLt_ints _ _
  rw [py_ent, py_ent, PySem.W.dataLt_pair (by simp [alike]) al, dataLt_int, lt]
  have ei : PyData.eqv (.int c) (.int c') = decide (c = c') := by simp only [PyData.eqv]; by_cases h : c = c' <;> simp [h]
  rw [ei]
  by_cases hc : c = c'
  · subst hc
    rw [if_pos (by simp)]
    by_cases e : z = z'
    · have := hz e
      subst e
      subst this
      have r : PyData.eqv (encT (natI (z :: zs))) (encT (natI (z :: zs))) = true := eqv_refl_alike _ al
      rw [if_pos r]
      simp
    · have ne : PyData.eqv (encT (natI (z :: zs))) (encT (natI (z' :: zs'))) = false := by
        unfold encT natI
        simp only [PyData.eqv, List.map_cons, PyData.eqvAll]
        have : ((z : Int) == (z' : Int)) = false := by simp; omega
        rw [this, Bool.false_and]
      rw [ne, if_neg (by decide)]
      unfold natI
      rw [List.map_cons, List.map_cons]
      by_cases q : z < z'
      · rw [decide_eq_true (List.cons_lt_cons_iff.mpr (.inl (by omega))), decide_eq_true (by omega)]
      · rw [decide_eq_false (fun hh => by rcases List.cons_lt_cons_iff.mp hh with a | ⟨a, _⟩ <;> omega), decide_eq_false (by omega)]
  · rw [if_neg (by simpa using hc)]
    by_cases q : c < c'
    · rw [decide_eq_true q, decide_eq_true (by omega)]
    · rw [decide_eq_false q, decide_eq_false (by omega)]
theorem plD_ent {c : Int} {z : Nat} {zs : List Nat} (h : zs.length < 100) : plD 5 (entD c z zs) = true := by
  unfold entD
  refine plD_tI ?_ (by simp)
  simp only [plL, Bool.and_eq_true]
  refine ⟨rfl, plD_tI ?_ (by rw [List.length_cons, List.length_map]; omega), trivial⟩
  have : natD z :: zs.map natD = (natI (z :: zs)).map D.int := by unfold natI; rw [List.map_map, List.map_cons]; rfl
  rw [this]
  exact plL_ints _
/-- min of entries, no two of the same first size -/
theorem r_minE {q : Addr} {es : List Nat} {c : Nat → Int} {f : Nat} {zz : Nat → List Nat} {cs : Cs} {P : DP} (hq : look q cs = some (.lst (es.map fun e => entD (c e) (e - f) (zz e)))) (h0 : 0 < es.length) (hl : es.length ≤ 1000) (he : ∀ e ∈ es, f < e ∧ e - f < 100 ∧ (zz e).length < 100)
    (h : ∀ e, e ∈ es → (∀ e', e' ∈ es → c e * 100 + ((e - f : Nat) : Int) ≤ c e' * 100 + ((e' - f : Nat) : Int)) → P (entD (c e) (e - f) (zz e)) cs) : oMinD [.opq (.ref q)] cs P := by
  have gt : ∀ {i : Nat} {x : D}, (es.map fun e => entD (c e) (e - f) (zz e))[i]? = some x → ∃ e, es[i]? = some e ∧ x = entD (c e) (e - f) (zz e) := fun {i x} hx => by
    rw [List.getElem?_map] at hx
    cases e : es[i]? with
    | none => rw [e] at hx; cases hx
    | some y => rw [e] at hx; cases hx; exact ⟨y, rfl, rfl⟩
  have gm : ∀ {x : PyData}, x ∈ pyL (es.map fun e => entD (c e) (e - f) (zz e)) → ∃ e, e ∈ es ∧ x = pyD (entD (c e) (e - f) (zz e)) := by
    have key : ∀ l : List D, ∀ x, x ∈ pyL l → ∃ d ∈ l, x = pyD d := by
      intro l
      induction l with
      | nil => intro x hx; cases hx
      | cons d l ih =>
        intro x hx
        rw [pyL] at hx
        rcases List.mem_cons.mp hx with z | z
        · exact ⟨d, List.mem_cons_self .., z⟩
        · obtain ⟨d', h1, h2⟩ := ih x z
          exact ⟨d', List.mem_cons_of_mem _ h1, h2⟩
    intro x hx
    obtain ⟨d, h1, h2⟩ := key _ x hx
    obtain ⟨e, h3, rfl⟩ := List.mem_map.mp h1
    exact ⟨e, h3, h2⟩
  refine ⟨_, _, fun i => c (es.getD i 0) * 100 + ((es.getD i 0 - f : Nat) : Int), rfl, lstOf_m hq, by rw [List.length_map]; exact h0, plL_of fun d hd => ?_, ⟨fun x hx y hy => ?_, fun x hx => ?_⟩, fun i j x y hx hy => ?_, fun i x hx hm => ?_⟩
  · obtain ⟨e, h1, rfl⟩ := List.mem_map.mp hd
    exact plD_mono _ (plD_ent (he e h1).2.2) (by decide)
  · obtain ⟨e, h1, rfl⟩ := gm hx
    obtain ⟨e', h2, rfl⟩ := gm hy
    exact ent_alike ..
  · obtain ⟨e, h1, rfl⟩ := gm hx
    rw [py_ent]
    simp
  · obtain ⟨e, h1, rfl⟩ := gt hx
    obtain ⟨e', h2, rfl⟩ := gt hy
    have a1 := he e (List.mem_of_getElem? h1)
    have a2 := he e' (List.mem_of_getElem? h2)
    simp only [List.getD_eq_getElem?_getD, h1, h2, Option.getD_some]
    exact ent_lt a1.2.1 a2.2.1 fun z => by rw [show e = e' by omega]
  · obtain ⟨e, h1, rfl⟩ := gt hx
    refine h e (List.mem_of_getElem? h1) fun e' he' => ?_
    obtain ⟨j, hj⟩ := List.getElem?_of_mem he'
    have := hm j (by rw [List.length_map]; exact (List.getElem?_eq_some_iff.mp hj).1)
    simpa only [List.getD_eq_getElem?_getD, h1, hj, Option.getD_some] using this
theorem r_neNilD {xs : List D} {cs : Cs} {P : DP} (hp : plD 20 (.lst xs) = true) (h : P (.bl (!xs.isEmpty)) cs) : oNe (.lst xs) (.lst []) cs P := ⟨hp, rfl, by
  have e : eqD (.lst xs) (.lst []) = xs.isEmpty := by
    cases xs <;> simp [eqD, eqL]
  rw [e]; exact h⟩
theorem r_setKIM {p : Addr} {kvs : List (Key × D)} {i : Int} {d : D} {cs : Cs} {R : Cs → Prop} (hl : look p cs = some (.dic kvs)) (hz : kvs.length < 100000) (h : R (put p (.dic (putD kvs (.inl i) d)) cs)) : oSetDK (.opq (.ref p)) (.int i) d cs R := by
  unfold oSetDK; simp only [hl]; exact ⟨.inl i, rfl, hz, h⟩
theorem r_setKSM {p : Addr} {kvs : List (Key × D)} {x : Str} {d : D} {cs : Cs} {R : Cs → Prop} (hl : look p cs = some (.dic kvs)) (hz : kvs.length < 100000) (h : R (put p (.dic (putD kvs (.inr x) d)) cs)) : oSetDK (.opq (.ref p)) (.str x) d cs R := by
  unfold oSetDK; simp only [hl]; exact ⟨.inr x, rfl, hz, h⟩
/-! ### costs as counts -/
theorem spl_rows : ∀ (zs : List Nat) (f : Nat), ((List.range (natI zs).length).map fun i => ((f : Int) + preS (natI zs) i, (natI zs).getD i 0)) = (rowsP f zs).map fun p => ((p.1 : Int), (p.2 : Int))
  | [], _ => rfl
  | z :: zs, f => by
    have ih := spl_rows zs (f + z)
    have e : natI (z :: zs) = (z : Int) :: natI zs := rfl
    rw [e, List.length_cons, List.range_succ_eq_map, List.map_cons, List.map_map, rowsP, List.map_cons, ← ih]
    refine congr (congrArg _ ?_) (List.map_congr_left fun i _ => ?_)
    · simp [preS]
    · have : preS ((z : Int) :: natI zs) (i + 1) = (z : Int) + preS (natI zs) i := by unfold preS; rw [List.take_succ_cons, List.sum_cons]
      show ((f : Int) + preS ((z : Int) :: natI zs) (i + 1), ((z : Int) :: natI zs).getD (i + 1) 0) = _
      rw [this, List.getD_cons_succ]
      refine Prod.ext ?_ rfl
      show (f : Int) + ((z : Int) + preS (natI zs) i) = ((f + z : Nat) : Int) + preS (natI zs) i
      omega
theorem spl_rows0 (zs : List Nat) : spl (natI zs) = (rowsP 0 zs).map fun p => ((p.1 : Int), (p.2 : Int)) := by
  rw [← spl_rows zs 0]
  unfold spl
  refine List.map_congr_left fun i _ => ?_
  simp
theorem wc_count (ks : List (Int × Int)) : ∀ (ys : List Nat) (f : Nat), wc (cst ks) f ys = ((((rowsP f ys).map fun p => ((p.1 : Int), (p.2 : Int))).filter fun p => !decide (p ∈ ks)).length : Int)
  | [], _ => rfl
  | z :: ys, f => by
    rw [wc, wc_count ks ys (f + z), rowsP, List.map_cons]
    unfold cst
    have e : ((f + z : Nat) : Int) - (f : Int) = (z : Int) := by omega
    rw [e]
    by_cases h : ((f : Int), (z : Int)) ∈ ks
    · rw [if_pos h, List.filter_cons_of_neg (by simp [h])]; omega
    · rw [if_neg h, List.filter_cons_of_pos (by simp [h]), List.length_cons]; omega
theorem wc_spl (ks : List (Int × Int)) (ys : List Nat) : wc (cst ks) 0 ys = (((spl (natI ys)).filter fun p => !decide (p ∈ ks)).length : Int) := by rw [spl_rows0, wc_count]
theorem CF_le {R : Nat → Nat → Prop} {c : Nat → Nat → Int} {f e : Nat} {l : Int} (h : CB R c f 0 = some l) (hfe : f < e) (hR : R f e) : ∃ m, CB R c e 0 = some m ∧ m ≤ l + c f e := by
  obtain ⟨zs, w, hw⟩ := (CB_some.mp h).is
  obtain ⟨w2, c2⟩ := w.snoc (c := c) hfe hR
  obtain ⟨m, hm⟩ := isC_of (c := c) w2
  exact ⟨m, CB_some.mpr hm, by have := hm.le _ w2; rw [c2, hw] at this; exact this⟩
theorem CB_le {R : Nat → Nat → Prop} {c : Nat → Nat → Int} {n : Nat} {k : Int} {ys : List Nat} (h : CB R c n 0 = some k) (w : LWay R n 0 ys) : k ≤ wc c 0 ys := (CB_some.mp h).le ys w
/-- what numbers tells shows the least cost -/
theorem num_shown (sh : Nat → Nat → Rat) (r : Rat) (ks : List (Int × Int)) (n : Nat) : ShownP sh r ks n ((List.range (n + 1)).map fun e => CB (lets sh r) (cst ks) e 0) := by
  have at_ : ∀ e, e ≤ n → ((List.range (n + 1)).map fun e => CB (lets sh r) (cst ks) e 0)[e]? = some (CB (lets sh r) (cst ks) e 0) := fun e he => by
    rw [List.getElem?_map, List.getElem?_range (by omega)]; rfl
  refine ⟨by rw [List.length_map, List.length_range], by rw [at_ 0 (Nat.zero_le _), CB_n], fun f e l h1 h2 h3 h4 => ?_⟩
  rw [at_ f (by omega)] at h4
  rw [at_ e h2]
  obtain ⟨m, m1, m2⟩ := CF_le (Option.some.inj h4) h1 h3
  exact ⟨m, by rw [m1], m2⟩
/-! ### the best sizes are the calm ones where all is kept -/
def allK (n : Nat) : List (Int × Int) := (spots n).map fun p => ((p.1 : Int), (p.2 : Int) - (p.1 : Int))
theorem allK_cst {n f e : Nat} (h1 : f < e) (h2 : e ≤ n) : cst (allK n) f e = 0 := by
  unfold cst
  rw [if_pos]
  unfold allK
  exact List.mem_map.mpr ⟨(f, e), mem_spots.mpr ⟨h1, h2⟩, rfl⟩
theorem allK_wc {n : Nat} {R : Nat → Nat → Prop} {f : Nat} {zs : List Nat} (h : LWay R n f zs) : wc (cst (allK n)) f zs = 0 := by
  induction h with
  | nil => rfl
  | cons h1 h2 _ _ ih => rw [wc, ih, allK_cst (by omega) h2]; rfl
theorem allK_CB {n : Nat} {R : Nat → Nat → Prop} {f : Nat} {l : Int} : CB R (cst (allK n)) n f = some l ↔ l = 0 ∧ ∃ zs, LWay R n f zs := by
  constructor
  · intro h
    obtain ⟨zs, w, e⟩ := (CB_some.mp h).is
    rw [allK_wc w] at e
    exact ⟨e.symm, zs, w⟩
  · rintro ⟨rfl, zs, w⟩
    exact CB_some.mpr ⟨⟨zs, w, allK_wc w⟩, fun ys hy => by rw [allK_wc hy]; exact Int.le_refl _⟩
theorem lway_LE {sh : Nat → Nat → Rat} {n f : Nat} {r : Rat} (hf : f ≤ n) (h1 : 1 ≤ r) : (∃ zs, LWay (lets sh r) n f zs) ↔ ¬ r < LE sh n f := by
  constructor
  · rintro ⟨zs, w⟩ h
    have h2 := (lets_iff h1 w.way).mp w
    have h3 := (LE_ok (sh := sh) hf).le zs w.way
    exact absurd (Std.lt_of_lt_of_le h (Rat.le_trans h3 h2)) (by exact Rat.lt_irrefl)
  · intro h
    obtain ⟨zs, w, e⟩ := (LE_ok (sh := sh) hf).is
    exact ⟨zs, (lets_iff h1 w).mpr (by rw [e]; exact Rat.not_lt.mp h)⟩
theorem gC_gB {sh : Nat → Nat → Rat} {n f e : Nat} (h1 : f < e) (h2 : e ≤ n) : gC (lets sh (LE sh n 0)) (cst (allK n)) n f e ↔ gB sh n f e := by
  have g1 : 1 ≤ LE sh n 0 := LE_ge (Nat.zero_le _)
  unfold gC gB
  constructor
  · rintro ⟨a1, l, a2, _⟩
    exact ⟨a1, (lway_LE h2 g1).mp (allK_CB.mp a2).2⟩
  · rintro ⟨a1, a2⟩
    obtain ⟨zs, w⟩ := (lway_LE h2 g1).mpr a2
    refine ⟨a1, 0, allK_CB.mpr ⟨rfl, zs, w⟩, allK_CB.mpr ⟨by rw [allK_cst h1 h2]; rfl, (e - f) :: zs, .cons (by omega) (by omega) ?_ ?_⟩⟩
    · rw [show f + (e - f) = e by omega]; exact a1
    · rw [show f + (e - f) = e by omega]; exact w
theorem fw_calm_best {sh : Nat → Nat → Rat} {n f : Nat} {zs : List Nat} (h : IsFW (gC (lets sh (LE sh n 0)) (cst (allK n)) n) n f zs) : IsFW (gB sh n) n f zs := by
  induction h with
  | nil => exact .nil
  | cons h1 h2 h3 h4 _ ih => exact .cons h1 h2 ((gC_gB (by omega) h2).mp h3) (fun y y1 y2 z => h4 y y1 y2 ((gC_gB (by omega) (by omega)).mpr z)) ih
theorem allK_some (sh : Nat → Nat → Rat) (n : Nat) : CB (lets sh (LE sh n 0)) (cst (allK n)) n 0 ≠ none := fun z => by
  obtain ⟨zs, w⟩ := (lway_LE (sh := sh) (n := n) (Nat.zero_le n) (LE_ge (Nat.zero_le _))).mpr (show ¬ LE sh n 0 < LE sh n 0 from Rat.lt_irrefl)
  rw [allK_CB.mpr ⟨rfl, zs, w⟩] at z
  cases z
/-! ### the beginnings for the least worst shape shut it -/
theorem Rch.lway {sh : Nat → Nat → Rat} {n e : Nat} {r : Rat} (h : Rch sh n r e) : ∃ zs, LWay (fun a b => sh a b < r) e 0 zs := by
  induction h with
  | zero => exact ⟨[], .nil⟩
  | @step f e _ h1 _ h3 ih =>
    obtain ⟨zs, w⟩ := ih
    exact ⟨_, (w.snoc (c := fun _ _ => 0) h1 h3).1⟩
theorem lway_lt {sh : Nat → Nat → Rat} {n f : Nat} {r : Rat} (h1 : 1 < r) {zs : List Nat} (h : LWay (fun a b => sh a b < r) n f zs) : wFrom sh f zs < r := by
  induction h with
  | nil => exact h1
  | @cons f z zs _ _ h3 _ ih =>
    rw [wFrom]
    rcases mxR_or (sh f (f + z)) (wFrom sh (f + z) zs) with e | e <;> rw [e] <;> assumption
theorem not_rch_LE {sh : Nat → Nat → Rat} {n : Nat} (hn : 0 < n) (hs : ∀ a e, a < e → e ≤ n → 1 ≤ sh a e) : ¬ Rch sh n (LE sh n 0) n := fun h => by
  have h1 : 1 < LE sh n 0 := by
    rcases rch_iff.mp h with z | ⟨_, f, a1, _, a3⟩
    · omega
    · exact Std.lt_of_le_of_lt (hs f n a1 (Nat.le_refl _)) a3
  obtain ⟨zs, w⟩ := h.lway
  have h2 := lway_lt h1 w
  have h3 := (LE_ok (sh := sh) (Nat.zero_le n)).le zs w.way
  exact absurd (Std.lt_of_lt_of_le h2 h3) Rat.lt_irrefl
theorem shut_LE {sh : Nat → Nat → Rat} {n : Nat} (hn : 0 < n) (hs : ∀ a e, a < e → e ≤ n → 1 ≤ sh a e) : (0 : Int) ∈ natI (rchL sh n (LE sh n 0) (n + 1)) ∧ ¬ (n : Int) ∈ natI (rchL sh n (LE sh n 0) (n + 1)) ∧
    (∀ f e, f < e → e ≤ n → (f : Int) ∈ natI (rchL sh n (LE sh n 0) (n + 1)) → ¬ (e : Int) ∈ natI (rchL sh n (LE sh n 0) (n + 1)) → ¬ sh f e < LE sh n 0) ∧ shutB sh n (LE sh n 0) (natI (rchL sh n (LE sh n 0) (n + 1))) = true := by
  have a0 : (0 : Int) ∈ natI (rchL sh n (LE sh n 0) (n + 1)) := (natI_mem (i := 0)).mpr (mem_rchL.mpr ⟨by omega, .zero⟩)
  have an : ¬ (n : Int) ∈ natI (rchL sh n (LE sh n 0) (n + 1)) := fun z => not_rch_LE hn hs (mem_rchL.mp (natI_mem.mp z)).2
  have ah : ∀ f e, f < e → e ≤ n → (f : Int) ∈ natI (rchL sh n (LE sh n 0) (n + 1)) → ¬ (e : Int) ∈ natI (rchL sh n (LE sh n 0) (n + 1)) → ¬ sh f e < LE sh n 0 := fun f e h1 h2 h3 h4 h5 =>
    h4 (natI_mem.mpr (mem_rchL.mpr ⟨by omega, .step (mem_rchL.mp (natI_mem.mp h3)).2 h1 h2 h5⟩))
  exact ⟨a0, an, ah, shutB_true a0 an ah⟩
end DL

/-! DLAs: all sizes of n things, in their order. -/
namespace DL
open PySem PySem.Spec PyProof.Rows L2
def chZ (n : Nat) (z : List Int) : List (List Int) := (List.range ((n : Int) - z.sum).toNat).map fun (j : Nat) => z ++ [(1 : Int) + (j : Int)]
def wtZ (n : Nat) (z : List Int) : Nat := 2 ^ ((n : Int) - z.sum).toNat
def wsZ (n : Nat) (F : List (List Int)) : Nat := (F.map (wtZ n)).sum
theorem pow_sum : ∀ l : Nat, ((List.range l).map fun j => 2 ^ (l - 1 - j)).sum + 1 = 2 ^ l
  | 0 => rfl
  | l + 1 => by
    have ih := pow_sum l
    rw [List.range_succ_eq_map, List.map_cons, List.map_map, List.sum_cons]
    have e : ((List.range l).map ((fun j => 2 ^ (l + 1 - 1 - j)) ∘ Nat.succ)) = (List.range l).map fun j => 2 ^ (l - 1 - j) := List.map_congr_left fun j hj => by
      have := List.mem_range.mp hj
      show 2 ^ (l + 1 - 1 - (j + 1)) = _
      rw [show l + 1 - 1 - (j + 1) = l - 1 - j by omega]
    rw [e, show l + 1 - 1 - 0 = l by omega, Nat.pow_succ]
    omega
theorem wsZ_ch {n : Nat} {z : List Int} (h : z.sum ≤ n) : wsZ n (chZ n z) + 1 = wtZ n z := by
  unfold wsZ chZ wtZ
  rw [List.map_map, ← pow_sum]
  refine congrArg (fun l : List Nat => l.sum + 1) (List.map_congr_left fun j hj => ?_)
  have := List.mem_range.mp hj
  show 2 ^ ((n : Int) - (z ++ [(1 : Int) + (j : Int)]).sum).toNat = _
  rw [List.sum_append, List.sum_singleton]
  congr 1
  omega
theorem wsZ_app (n : Nat) (F G : List (List Int)) : wsZ n (F ++ G) = wsZ n F + wsZ n G := by unfold wsZ; rw [List.map_append, List.sum_append]
theorem wsZ_len (n : Nat) : ∀ F : List (List Int), F.length ≤ wsZ n F
  | [] => Nat.zero_le _
  | z :: F => by
    have := wsZ_len n F
    have h1 : 0 < wtZ n z := Nat.pow_pos (by decide)
    show F.length + 1 ≤ wtZ n z + wsZ n F
    omega
theorem wsZ_step {n : Nat} : ∀ F : List (List Int), (∀ z ∈ F, z.sum ≤ n) → wsZ n (F.flatMap (chZ n)) + F.length ≤ wsZ n F
  | [], _ => Nat.le_refl _
  | z :: F, h => by
    have ih := wsZ_step F fun y hy => h y (List.mem_cons_of_mem _ hy)
    have e := wsZ_ch (h z (List.mem_cons_self ..))
    rw [List.flatMap_cons, wsZ_app]
    show wsZ n (chZ n z) + wsZ n (F.flatMap (chZ n)) + (F.length + 1) ≤ wtZ n z + wsZ n F
    omega
/-- the parts of a first k, all positive, at most n together -/
def PreZ (n k : Nat) (z : List Int) : Prop := z.length = k ∧ (∀ x ∈ z, 1 ≤ x) ∧ z.sum ≤ n
theorem sum_ge : ∀ {z : List Int}, (∀ x ∈ z, 1 ≤ x) → (z.length : Int) ≤ z.sum
  | [], _ => Int.le_refl _
  | x :: z, h => by
    have := sum_ge fun y hy => h y (List.mem_cons_of_mem _ hy)
    have := h x (List.mem_cons_self ..)
    rw [List.length_cons, List.sum_cons]
    omega
theorem mem_chZ {n k : Nat} {F : List (List Int)} (hF : ∀ z, z ∈ F ↔ PreZ n k z) (z : List Int) : z ∈ F.flatMap (chZ n) ↔ PreZ n (k + 1) z := by
  rw [List.mem_flatMap]
  constructor
  · rintro ⟨y, hy, hz⟩
    obtain ⟨a1, a2, a3⟩ := (hF y).mp hy
    unfold chZ at hz
    obtain ⟨j, hj, rfl⟩ := List.mem_map.mp hz
    have hj := List.mem_range.mp hj
    refine ⟨by rw [List.length_append, a1]; rfl, fun x hx => ?_, by rw [List.sum_append, List.sum_singleton]; omega⟩
    rcases List.mem_append.mp hx with q | q
    · exact a2 x q
    · rw [List.mem_singleton.mp q]; omega
  · rintro ⟨a1, a2, a3⟩
    have hne : z ≠ [] := fun e => by rw [e] at a1; cases a1
    have e := List.dropLast_concat_getLast hne
    generalize z.dropLast = y at e
    generalize z.getLast hne = x at e
    subst e
    rw [List.length_append, List.length_singleton] at a1
    rw [List.sum_append, List.sum_singleton] at a3
    have hx : 1 ≤ x := a2 x (List.mem_append_right _ (List.mem_singleton_self _))
    refine ⟨y, (hF y).mpr ⟨by omega, fun w hw => a2 w (List.mem_append_left _ hw), by omega⟩, ?_⟩
    unfold chZ
    exact List.mem_map.mpr ⟨(x - 1).toNat, List.mem_range.mpr (by omega), by rw [show (1 : Int) + ((x - 1).toNat : Int) = x by omega]⟩
theorem leZ_sorted (L : List (List Int)) : (L.mergeSort leZ).Pairwise (· ≤ ·) := by
  have h : (L.mergeSort leZ).Pairwise (fun a b => leZ a b = true) := List.pairwise_mergeSort (fun a b c h1 h2 => by
    unfold leZ at *
    simp only [decide_eq_true_eq] at *
    exact List.le_trans h1 h2) (fun a b => by
    unfold leZ
    rcases List.le_total a b with h | h <;> simp [h]) L
  exact h.imp fun h => of_decide_eq_true h
/-- all sizes of n things -/
def AllZ (n : Nat) (L : List (List Int)) : Prop := (∀ z, z ∈ L ↔ SzOk z n) ∧ L.Pairwise (· ≤ ·)
/-! ### the first of the best in their order -/
theorem fw_least {sh : Nat → Nat → Rat} {n f : Nat} {zs : List Nat} (h : IsFW (gB sh n) n f zs) : ∀ {ys : List Nat}, Way n f ys → wFrom sh f ys ≤ LE sh n 0 → natI zs ≤ natI ys := by
  induction h with
  | nil =>
    intro ys w _
    rw [w.end_]
    exact List.le_refl _
  | @cons f z zs h1 h2 g m r ih =>
    intro ys w hw
    cases w with
    | nil => omega
    | @cons _ y ys h1' h2' w' =>
      rw [wFrom] at hw
      have a1 : sh f (f + y) ≤ LE sh n 0 := Rat.le_trans (mxR_l ..) hw
      have a2 : wFrom sh (f + y) ys ≤ LE sh n 0 := Rat.le_trans (mxR_r ..) hw
      have gy : gB sh n f (f + y) := ⟨Rat.not_lt.mpr a1, Rat.not_lt.mpr (Rat.le_trans ((LE_ok (by omega)).le _ w') a2)⟩
      have hzy : z ≤ y := by
        rcases Nat.lt_or_ge y z with q | q
        · exact absurd gy (m y h1' q)
        · exact q
      show ((z : Int) :: natI zs) ≤ ((y : Int) :: natI ys)
      rw [List.cons_le_cons_iff]
      by_cases e : z = y
      · subst e
        exact .inr ⟨rfl, ih w' a2⟩
      · exact .inl (by omega)
/-- the chief behind i of them -/
def ChZ (w : List Int → Rat) (L : List (List Int)) (i j : Nat) (z : List Int) : Prop := j < i ∧ L[j]? = some z ∧ (∀ k y, k < i → L[k]? = some y → w z ≤ w y) ∧ ∀ k y, k < j → L[k]? = some y → w z < w y
theorem chZ_first {w : List Int → Rat} {L : List (List Int)} {i : Nat} {z : List Int} (h : L[i]? = some z) (hn : ∀ k y, k < i → L[k]? = some y → w z < w y) : ChZ w L (i + 1) i z :=
  ⟨by omega, h, fun k y hk hy => by
    by_cases e : k = i
    · rw [e, h] at hy; cases hy; exact Rat.le_refl
    · exact Rat.le_of_lt (hn k y (by omega) hy), hn⟩
theorem ChZ.keep {w : List Int → Rat} {L : List (List Int)} {i j : Nat} {z y : List Int} (h : ChZ w L i j z) (hy : L[i]? = some y) (hl : ¬ w y < w z) : ChZ w L (i + 1) j z := by
  obtain ⟨a1, a2, a3, a4⟩ := h
  refine ⟨by omega, a2, fun k x hk hx => ?_, a4⟩
  by_cases e : k = i
  · rw [e, hy] at hx; cases hx; exact Rat.not_lt.mp hl
  · exact a3 k x (by omega) hx
theorem ChZ.new {w : List Int → Rat} {L : List (List Int)} {i j : Nat} {z y : List Int} (h : ChZ w L i j z) (hy : L[i]? = some y) (hl : w y < w z) : ChZ w L (i + 1) i y := by
  obtain ⟨a1, a2, a3, a4⟩ := h
  exact chZ_first hy fun k x hk hx => Std.lt_of_lt_of_le hl (a3 k x hk hx)
theorem chief_is {sh : Nat → Nat → Rat} {n : Nat} {L : List (List Int)} (hL : AllZ n L) {w : List Int → Rat} (hw : ∀ ys : List Nat, Way n 0 ys → w (natI ys) = wFrom sh 0 ys) {j : Nat} {z : List Int} (h : ChZ w L L.length j z) {zs : List Nat} (hz : IsFW (gB sh n) n 0 zs) : z = natI zs ∧ w z = LE sh n 0 := by
  obtain ⟨a1, a2, a3, a4⟩ := h
  obtain ⟨ys, e, wy⟩ := szok_way ((hL.1 z).mp (List.mem_of_getElem? a2))
  have e' : z = natI ys := e
  subst e'
  have wz := hz.way
  have hzw : w (natI zs) = LE sh n 0 := (hw zs wz).trans (best_is hz)
  obtain ⟨k, hk⟩ := List.getElem?_of_mem ((hL.1 (natI zs)).mpr (way_szok wz))
  have hkl := (List.getElem?_eq_some_iff.mp hk).1
  have l1 : w (natI ys) ≤ LE sh n 0 := by rw [← hzw]; exact a3 k _ hkl hk
  have l2 : LE sh n 0 ≤ w (natI ys) := by rw [hw ys wy]; exact (LE_ok (Nat.zero_le _)).le _ wy
  have l3 : w (natI ys) = LE sh n 0 := Rat.le_antisymm l1 l2
  refine ⟨?_, l3⟩
  have lex : natI zs ≤ natI ys := fw_least hz wy (by rw [← hw ys wy]; exact l1)
  rcases Nat.lt_trichotomy k j with q | q | q
  · have := a4 k _ q hk
    rw [l3, hzw] at this
    exact absurd this Rat.lt_irrefl
  · subst q
    rw [a2] at hk
    exact Option.some.inj hk
  · have hp := List.pairwise_iff_getElem.mp hL.2 j k a1 hkl q
    have e1 : L[j]'a1 = natI ys := (List.getElem?_eq_some_iff.mp a2).2
    have e2 : L[k]'hkl = natI zs := (List.getElem?_eq_some_iff.mp hk).2
    rw [e1, e2] at hp
    exact List.le_antisymm hp lex
theorem least_ex {P : Nat → Prop} : ∀ n, P n → ∃ m, P m ∧ ∀ k, k < m → ¬ P k := fun n => by
  induction n using Nat.strongRecOn with
  | ind n ih =>
    intro h
    by_cases q : ∃ k, k < n ∧ P k
    · obtain ⟨k, k1, k2⟩ := q
      exact ih k k1 k2
    · exact ⟨n, h, fun k hk hp => q ⟨k, hk, hp⟩⟩
theorem fw_ex {sh : Nat → Nat → Rat} {n : Nat} : ∀ (m f : Nat), f + m = n → ¬ LE sh n 0 < LE sh n f → ∃ zs, IsFW (gB sh n) n f zs := fun m => by
  induction m using Nat.strongRecOn with
  | ind m ih =>
    intro f hf hB
    by_cases hm : m = 0
    · subst hm
      rw [show f = n by omega]
      exact ⟨[], .nil⟩
    · obtain ⟨e, h1, h2, h3, h4⟩ := LE_next (by omega) hB
      obtain ⟨z, ⟨z1, z2, z3⟩, zm⟩ := least_ex (P := fun z => 1 ≤ z ∧ f + z ≤ n ∧ gB sh n f (f + z)) (e - f) ⟨by omega, by omega, by rw [show f + (e - f) = e by omega]; exact ⟨h3, h4⟩⟩
      obtain ⟨zs, hz⟩ := ih (m - z) (by omega) (f + z) (by omega) z3.2
      exact ⟨z :: zs, .cons z1 z2 z3 (fun y y1 y2 hg => zm y y2 ⟨y1, by omega, hg⟩) hz⟩
theorem fw_ex0 (sh : Nat → Nat → Rat) (n : Nat) : ∃ zs, IsFW (gB sh n) n 0 zs := fw_ex n 0 (by omega) Rat.lt_irrefl
theorem AllZ.ne {n : Nat} {L : List (List Int)} (h : AllZ n L) : 0 < L.length := by
  have := (h.1 (natI (List.replicate n 1))).mpr (way_szok (way_ones n 0 (by omega)))
  exact List.length_pos_of_mem this
/-! ### the first of the calm ones in their order -/
section
variable {R : Nat → Nat → Prop} {c : Nat → Nat → Int} {n : Nat}
theorem fw_leastC {f : Nat} {zs : List Nat} (h : IsFW (gC R c n) n f zs) : ∀ {ys : List Nat} {k : Int}, LWay R n f ys → CB R c n f = some k → wc c f ys ≤ k → natI zs ≤ natI ys := by
  induction h with
  | nil =>
    intro ys k w _ _
    rw [w.end_]
    exact List.le_refl _
  | @cons f z zs h1 h2 g m r ih =>
    intro ys k w hk hw
    cases w with
    | nil => omega
    | @cons _ y ys h1' h2' hR w' =>
      rw [wc] at hw
      obtain ⟨l, hl⟩ := isC_of (c := c) w'
      have b1 := hl.le _ w'
      have hC := CB_some.mp hk
      have b2 : k ≤ c f (f + y) + l := by
        obtain ⟨us, u1, u2⟩ := hl.is
        have := hC.le (y :: us) (.cons h1' h2' hR u1)
        rw [wc, u2] at this
        exact this
      have gy : gC R c n f (f + y) := ⟨hR, l, CB_some.mpr hl, by rw [hk]; congr 1; omega⟩
      have hzy : z ≤ y := by
        rcases Nat.lt_or_ge y z with q | q
        · exact absurd gy (m y h1' q)
        · exact q
      show ((z : Int) :: natI zs) ≤ ((y : Int) :: natI ys)
      rw [List.cons_le_cons_iff]
      by_cases e : z = y
      · subst e
        exact .inr ⟨rfl, ih w' (CB_some.mpr hl) (by omega)⟩
      · exact .inl (by omega)
theorem fw_exC : ∀ (m f : Nat) (k : Int), f + m = n → CB R c n f = some k → ∃ zs, IsFW (gC R c n) n f zs := fun m => by
  induction m using Nat.strongRecOn with
  | ind m ih =>
    intro f k hf hB
    by_cases hm : m = 0
    · subst hm
      rw [show f = n by omega]
      exact ⟨[], .nil⟩
    · obtain ⟨e, h1, h2, h3⟩ := CB_next (by omega) hB
      obtain ⟨z, ⟨z1, z2, z3⟩, zm⟩ := least_ex (P := fun z => 1 ≤ z ∧ f + z ≤ n ∧ gC R c n f (f + z)) (e - f) ⟨by omega, by omega, by rw [show f + (e - f) = e by omega]; exact h3⟩
      obtain ⟨l, hl, _⟩ := z3.2
      obtain ⟨zs, hz⟩ := ih (m - z) (by omega) (f + z) l (by omega) hl
      exact ⟨z :: zs, .cons z1 z2 z3 (fun y y1 y2 hg => zm y y2 ⟨y1, by omega, hg⟩) hz⟩
end
/-- the chief among those that are let, behind i of them -/
def ChP (ok : List Int → Prop) (c : List Int → Int) (L : List (List Int)) (i j : Nat) (z : List Int) : Prop := j < i ∧ L[j]? = some z ∧ ok z ∧ (∀ k y, k < i → L[k]? = some y → ok y → c z ≤ c y) ∧ ∀ k y, k < j → L[k]? = some y → ok y → c z < c y
section
variable {ok : List Int → Prop} {c : List Int → Int} {L : List (List Int)} {i j : Nat} {z y : List Int}
theorem chP_first (h : L[i]? = some z) (hz : ok z) (hn : ∀ k y, k < i → L[k]? = some y → ok y → c z < c y) : ChP ok c L (i + 1) i z :=
  ⟨by omega, h, hz, fun k y hk hy ho => by
    by_cases e : k = i
    · rw [e, h] at hy; cases hy; exact Int.le_refl _
    · exact Int.le_of_lt (hn k y (by omega) hy ho), hn⟩
theorem ChP.keep (h : ChP ok c L i j z) (hy : L[i]? = some y) (hl : ok y → ¬ c y < c z) : ChP ok c L (i + 1) j z := by
  obtain ⟨a1, a2, a3, a4, a5⟩ := h
  refine ⟨by omega, a2, a3, fun k x hk hx ho => ?_, a5⟩
  by_cases e : k = i
  · rw [e, hy] at hx; cases hx; have := hl ho; omega
  · exact a4 k x (by omega) hx ho
theorem ChP.new (h : ChP ok c L i j z) (hy : L[i]? = some y) (ho : ok y) (hl : c y < c z) : ChP ok c L (i + 1) i y := by
  obtain ⟨a1, a2, a3, a4, a5⟩ := h
  exact chP_first hy ho fun k x hk hx ho => by have := a4 k x hk hx ho; omega
end
theorem calm_is {sh : Nat → Nat → Rat} {n : Nat} {r : Rat} {ks : List (Int × Int)} {L : List (List Int)} (hL : AllZ n L) {ok : List Int → Prop} {w : List Int → Int} (hok : ∀ ys : List Nat, Way n 0 ys → (ok (natI ys) ↔ LWay (lets sh r) n 0 ys)) (hw : ∀ ys : List Nat, w (natI ys) = wc (cst ks) 0 ys)
    {j : Nat} {z : List Int} (h : ChP ok w L L.length j z) : ∃ zs k, z = natI zs ∧ CB (lets sh r) (cst ks) n 0 = some k ∧ w z = k ∧ IsFW (gC (lets sh r) (cst ks) n) n 0 zs := by
  obtain ⟨a1, a2, a3, a4, a5⟩ := h
  obtain ⟨ys, e, wy⟩ := szok_way ((hL.1 z).mp (List.mem_of_getElem? a2))
  have e' : z = natI ys := e
  subst e'
  have ly := (hok ys wy).mp a3
  obtain ⟨k, hk⟩ := isC_of (c := cst ks) ly
  have hC := CB_some.mpr hk
  obtain ⟨zs, hz⟩ := fw_exC n 0 k (by omega) hC
  have lz := calm_way hz
  have cz := calm_cost hz
  rw [hC] at cz
  have cz : k = wc (cst ks) 0 zs := Option.some.inj cz
  obtain ⟨i, hi⟩ := List.getElem?_of_mem ((hL.1 (natI zs)).mpr (way_szok lz.way))
  have hil := (List.getElem?_eq_some_iff.mp hi).1
  have oz := (hok zs lz.way).mpr lz
  have l1 : w (natI ys) ≤ k := by rw [cz, ← hw zs]; exact a4 i _ hil hi oz
  have l2 : k ≤ w (natI ys) := by rw [hw ys]; exact hk.le _ ly
  have lex : natI zs ≤ natI ys := fw_leastC hz ly hC (by rw [← hw ys]; exact l1)
  refine ⟨zs, k, ?_, hC, by omega, hz⟩
  rcases Nat.lt_trichotomy i j with q | q | q
  · have := a5 i _ q hi oz
    rw [hw zs, ← cz] at this
    omega
  · subst q
    rw [a2] at hi
    exact Option.some.inj hi
  · have hp := List.pairwise_iff_getElem.mp hL.2 j i a1 hil q
    have e1 : L[j]'a1 = natI ys := (List.getElem?_eq_some_iff.mp a2).2
    have e2 : L[i]'hil = natI zs := (List.getElem?_eq_some_iff.mp hi).2
    rw [e1, e2] at hp
    exact List.le_antisymm hp lex
theorem calm_none {sh : Nat → Nat → Rat} {n : Nat} {r : Rat} {ks : List (Int × Int)} {L : List (List Int)} (hL : AllZ n L) {ok : List Int → Prop} (hok : ∀ ys : List Nat, Way n 0 ys → (ok (natI ys) ↔ LWay (lets sh r) n 0 ys)) (h : ∀ k y, k < L.length → L[k]? = some y → ¬ ok y) : CB (lets sh r) (cst ks) n 0 = none := by
  refine (CB_none (Nat.zero_le _)).mpr fun zs w => ?_
  obtain ⟨i, hi⟩ := List.getElem?_of_mem ((hL.1 (natI zs)).mpr (way_szok w.way))
  exact h i _ (List.getElem?_eq_some_iff.mp hi).1 hi ((hok zs w.way).mpr w)
end DL

/-! DLEx: own exceptions over data: raise C(..), try with several clauses, lambdas handed to a def. -/
namespace DL
open PySem PySem.Spec PyProof.Rows L2 ClX
/-! ### C.m(e, ..) of an own class, m a def -/
section
variable {X : Cx} {x m : Str} {C f : Addr} {mc : Value} {CX : CXT} {k : Nat} {fd : FuncData} {ps : List Str} {sp : Sp} {ds : List Value} {dvs : List V} {E : XK} {e : Expr} {es : List Expr} {t : TA} {p1 p2 pos : Pos}
theorem pe_cfun {pl : Sem Bool} (F : FnOk X.prog X.w X.K X.mg X.base CX k f fd ps sp) (hr : Room k X.A) (hg : Gl X x) (hm : X.mg x = some (.ref C)) (rC : CRead X.K C mc) (vC : CVal X.K C mc m (.ref f) (.ref f)) (hk : PySem.W.keepIn X.K (.ref f) = true)
    (hb : Binds X.K fd ps ds) (hd : Vals dvs ds) (hx : Passes CX X E) (ha : PA X (e :: es) t) (hdb : (x == ("__debug__" : Str)) = false := by decide)
    (hc : eval (.Call (.Attribute (.Name x p1) m p2) (e :: es) [] pos) X.env = (do
      let ov ← eval (.Name x p1) X.env
      standAt p2.atName
      let (f, first) ← holding [ov] (getMethod ov m pl)
      callWith pos f first (backTo pos (starEach (e :: es) X.env)) (backToKw pos (keywordEach [] X.env))) := by rfl)
    (he : starEach (e :: es) X.env = (false, eval e X.env) :: starEach es X.env := by rfl) (hpl : (backTo pos (starEach es X.env)).any (·.1) = false := by rfl) :
    PE X (.Call (.Attribute (.Name x p1) m p2) (e :: es) [] pos) (tCall sp dvs E t) := by
  refine ⟨fun pins s0 σ H Q I hq => ?_⟩
  refine PySem.W.methodCall_KW (ld_glob I hg hm (PySem.W.method_cls I.kIn rC.ga (getcval_ok I rC vC fun s1 J => ?_)) hdb) hc
  refine PySem.W.callWith_K (h₀ := X.base) J.ok.mod.kin hk (thn (ha.run pos pins s1 σ H _ J hq) fun us s2 hh => ?_) he hpl
  obtain ⟨vs, H1, I1, r1, q1⟩ := hh
  exact ⟨I1.kIn, run_fn F hr hb hd hx I1 r1 q1⟩
end
/-! ### C(), C's own __init__ keeping sp -/
section
variable {X : Cx} {x : Str} {C fI : Addr} {CX : CXT} {k : Nat} {fd : FuncData} {ps : List Str} {sp : Sp} {ds : List Value} {dvs : List V} {p pos : Pos}
theorem pmk_oex0 (T : OexC X.K C) (iC : PySem.W.findIn X.K (.ref C) "__init__" = some (some (.ref fI))) (tI : PySem.W.typeIn X.K (.ref fI) = some (.type "function")) (FI : FnOk X.prog X.w X.K X.mg X.base CX k fI fd ps sp) (hr : Room (k + 1) X.A)
    (hb : Binds X.K fd ps ds) (hd : Vals dvs ds) (hx : Passes CX X (fun _ _ _ => False)) (hg : Gl X x) (hm : X.mg x = some (.ref C)) (hdb : (x == ("__debug__" : Str)) = false := by decide) : PMk X (.Call (.Name x p) [] [] pos) (tMkO C sp dvs tNil) := by
  intro pins s σ H Q I hq
  obtain ⟨nm, q, N, bs, bm, sn, sub, ab, col, dd, k0, k1, k2, k3, k5, hC, hbm⟩ := T.cls
  refine wpAny_Call_Name_kw (ld_glob I hg hm (PySem.W.callWith_K0 I.kIn T.kC ?_) hdb)
  obtain ⟨_, hq⟩ := hq
  obtain ⟨hp, g, dr, tk, os⟩ := s
  obtain ⟨b, hbe⟩ : ∃ b, b = hp.objs.size + 1 := ⟨_, rfl⟩
  have hsz : hp.objs.size ≤ b := by omega
  have hq2 := hq b (I.hok.fresh hsz)
  obtain ⟨G, hG⟩ : ∃ G, G = (hp.push (PySem.W.kdv_tup [])).push (PySem.HandSPX.excO C hp.objs.size) := ⟨_, rfl⟩
  have kk : ∀ c o, hp.get? c = some o → G.get? c = some o := fun c o z => by rw [hG]; exact Heap.get?_push_of_some _ (Heap.get?_push_of_some _ z)
  have at_ : G.get? b = some (PySem.HandSPX.excO C hp.objs.size) := by rw [hG, hbe]; heap_get
  have J : L2.Inv X pins σ (upd H b (exo b C none)) ⟨G, g, dr, tk, os⟩ := I.laid (t' := tk) kk hsz (exo_ok at_)
  have rv : Vals (V.ref b :: ([] ++ dvs)) ([Value.ref b] ++ ds) := .cons rfl hd
  have hl : ([Value.ref b] ++ ds).length = ps.length := by
    have z := rv.length
    rw [FI.len _ _ _ _ hq2] at z
    exact z.symm
  have run := FI.run _ X.stack _ _ ⟨Value.ref b :: [], []⟩ ([Value.ref b] ++ ds) _ _ (fun _ _ _ => False) (hr.make C [] []) (J.env0.make C [] []) (hb _ (Value.ref b :: []) J.kIn hl) rv hq2
  rw [hG, hbe] at run
  refine wpAny_call (PySem.HandSPX.call_own F.excBase_ValueError (fun Y => PySem.HandSPX.refsVE_contains Y bm hbm) (I.kIn _ _ hC) (PySem.W.looks_findIn I.kIn iC) (fun self => PySem.W.bind_fn I.kIn self tI) (by simp) (codeAny_mono run fun r s' hr' => ?_))
  rw [← hG, ← hbe] at hr'
  cases r with
  | error er => exact hx pins σ _ _ er s' J hr'
  | ok fl =>
    cases fl with
    | ret u =>
      obtain ⟨v, H2, os2, bare2, un2, hok2, rv2, ev, d, fs, ea, ed, hd1, q2⟩ := hr'
      subst ev
      obtain ⟨h2, g2, d2, t2, os'⟩ := s'
      rw [← hbe]
      exact ⟨rv2, mk_end (raises_own T.exC T.tyC) I hsz kk un2 hok2 os2 bare2 ea ed hd1 q2⟩
    | next => exact False.elim hr'
    | brk => exact False.elim hr'
    | cont => exact False.elim hr'
end
/-! ### own exceptions' __init__ -/
/-- what is known of an own exception's class: its fields are no attributes of the class -/
structure XcC (K : PySem.W.Frag) (C : Addr) : Prop where
  o : OexC K C
  f : XfC K C
  called : PySem.W.findIn K (.ref C) "called" = some none
  at_ : PySem.W.findIn K (.ref C) "at" = some none
  name : PySem.W.findIn K (.ref C) "name" = some none
  what : PySem.W.findIn K (.ref C) "what" = some none
/-- __init__(self, ..): the fields are g of the arguments -/
def spX (K : PySem.W.Frag) (n : Nat) (g : List V → List (Str × V)) : Sp := fun vs H Q _ => ∃ (a C : Addr) (ws : List V), vs = .ref a :: ws ∧ ws.length = n ∧ XcC K C ∧ H a = some (exo a C none) ∧
  ∀ dx, H dx = none → dx ≠ a → Q .non (upd (upd H dx (exd dx (g ws))) a (exo a C (some dx)))
theorem spX_len {K : PySem.W.Frag} {n : Nat} {g : List V → List (Str × V)} : ∀ vs H Q E, spX K n g vs H Q E → vs.length = n + 1 := fun vs H Q E ⟨a, C, ws, e, l, _⟩ => by rw [e, List.length_cons, l]
theorem upd_upd {H : Hp} {a b : Addr} {o o' u : HO} (h : b ≠ a) : upd (upd (upd H b o) a u) b o' = upd (upd H b o') a u := by
  funext c
  by_cases h1 : c = b
  · subst h1; rw [upd_same, upd_ne h, upd_same]
  · by_cases h2 : c = a
    · subst h2; rw [upd_ne h1, upd_same, upd_same]
    · rw [upd_ne h1, upd_ne h2, upd_ne h1, upd_ne h2, upd_ne h1]
theorem vV (K : PySem.W.Frag) : PySem.W.findCls K (.type "ValueError") (.type "type") "__init__" = some (.val (.builtin "ValueError.__init__")) := by kernel_rfl
theorem vL (K : PySem.W.Frag) : PySem.W.findCls K (.type "LookupError") (.type "type") "__init__" = some (.val (.builtin "LookupError.__init__")) := by kernel_rfl
theorem vI (K : PySem.W.Frag) : PySem.W.findCls K (.type "IndexError") (.type "type") "__init__" = some (.val (.builtin "IndexError.__init__")) := by kernel_rfl
section
variable {K : PySem.W.Frag} {vs : List V} {H : Hp} {Q : VK} {E : XK} {sp : Sp} {c fl : Str} {n : Nat}
/-- the base: ValueError.__init__(self, called); self.called = called -/
theorem base_read (h : spX K 1 (fun ws => [("called", ws.getD 0 .non)]) vs H Q E) : tSeq (tDrop (tVeI K (tCons (tVar 0) (tCons (tVar 1) tNil)))) (tOst K "called" (tVar 0) (tVar 1)) { nx := fun _ H' => Q .non H', rt := Q } (L2.start ["self", "called"] vs) H := by
  obtain ⟨a, C, ws, rfl, hl, T, ha, hq⟩ := h
  obtain ⟨v, rfl⟩ : ∃ v, ws = [v] := by
    match ws, hl with
    | [v], _ => exact ⟨v, rfl⟩
  refine ⟨.ref a, rfl, v, rfl, a, C, [v], rfl, by simp, T.o, ha, ?_⟩
  exact ⟨v, rfl, .ref a, rfl, a, C, rfl, T.o, T.called, .inl ⟨ha, hq⟩⟩
/-- over it: B.__init__(self, 'c') -/
theorem over_read (h : spX K 0 (fun _ => [("called", .str c)]) vs H Q E) : tDrop (tCall (spX K 1 fun ws => [("called", ws.getD 0 .non)]) [] (fun _ _ _ => False) (tCons (tVar 0) (tCons (tC (.str c)) tNil))) { nx := fun _ H' => Q .non H', rt := Q } (L2.start ["self"] vs) H := by
  obtain ⟨a, C, ws, rfl, hl, T, ha, hq⟩ := h
  obtain rfl : ws = [] := List.length_eq_zero_iff.mp hl
  exact ⟨.ref a, rfl, a, C, [.str c], rfl, rfl, T, ha, fun dx h1 h2 => hq dx h1 h2⟩
/-- .. and a field: self.f = f -/
theorem over1_read (hf : ∀ C, XcC K C → PySem.W.findIn K (.ref C) fl = some none) (h : spX K 1 (fun ws => [(fl, ws.getD 0 .non), ("called", .str c)]) vs H Q E) :
    tSeq (tDrop (tCall (spX K 1 fun ws => [("called", ws.getD 0 .non)]) [] (fun _ _ _ => False) (tCons (tVar 0) (tCons (tC (.str c)) tNil)))) (tOst K fl (tVar 0) (tVar 1)) { nx := fun _ H' => Q .non H', rt := Q } (L2.start ["self", fl] vs) H := by
  obtain ⟨a, C, ws, rfl, hl, T, ha, hq⟩ := h
  obtain ⟨v, rfl⟩ : ∃ v, ws = [v] := by
    match ws, hl with
    | [v], _ => exact ⟨v, rfl⟩
  refine ⟨.ref a, rfl, a, C, [.str c], rfl, rfl, T, ha, fun dx h1 h2 => ?_⟩
  refine ⟨v, rfl, .ref a, rfl, a, C, rfl, T.o, hf C T, .inr ⟨dx, [("called", .str c)], upd_same, ?_, by simp, ?_⟩⟩
  · rw [upd_ne h2, upd_same]; rfl
  · rw [upd_upd h2]
    exact hq dx h1 h2
theorem noOut {X : Cx} : Passes (L2.CX X.prog X.w) X (fun _ _ _ => False) := fun _ _ _ _ _ _ _ z => by
  obtain ⟨_, _, _, _, _, _, _, _, _, _, _, _, z⟩ := z
  exact z.elim
end
/-! ### raise C(..) over data -/
def sRaise (n : Str) (g : List D → List (Str × D)) (w : WA) : WS := fun f ρ cs => w ρ cs (fun ds cs1 => f.ex ⟨n, g ds⟩ ρ cs1) (fun x cs1 => f.ex x ρ cs1)
/-- what the fields are, of values and of data -/
def FldOk (K : PySem.W.Frag) (gV : List V → List (Str × V)) (g : List D → List (Str × D)) : Prop := ∀ (G : Hp) (vs : List V) (ds : List D), RepL K G vs ds → RepX K G (gV vs) (g ds)
theorem mk_heap {H : Hp} {a d C : Addr} {fs : List (Str × V)} (h : H a = none) (hd : d ≠ a) : upd (L2.del (upd (upd (upd H a (exo a C none)) d (exd d fs)) a (exo a C (some d))) a) d (.xd fs) = upd H d (.xd fs) := by
  funext c
  by_cases h1 : c = d
  · subst h1; rw [upd_same, upd_same]
  · rw [upd_ne h1, upd_ne h1]
    by_cases h2 : c = a
    · subst h2; rw [L2.del_same, h]
    · rw [L2.del_ne h2, upd_ne h2, upd_ne h1, upd_ne h2]
section
variable {X : Cx} {W : WX} {K : PySem.W.Frag} {σ : L2.St} {H : Hp} {n : Str} {g : List D → List (Str × D)} {gV : List V → List (Str × V)} {dvs : List V} {dds : List D} {m l : Nat} {w : WA}
theorem raise_ok (hT : XcC K (He.ga K n)) (hg : FldOk K gV g) (hd : ∀ G, RepL K G dvs dds) (hm : m + dds.length = l) (hl : m ≤ 1000) {E : Ends} : lS K W (sRaise n (fun ds => g (ds ++ dds)) w) E σ H → tMkO (He.ga K n) (spX K l gV) dvs (lA K W m w) σ H (fun cls d H' => W cls d σ H') := by
  rintro ⟨F, cs, ρ, f, s, re, hw, pe⟩
  refine ⟨F, cs, ρ, _, _, s, re, hw, fun H1 cs1 vs ds s1 r1 l1 h1 => ?_, pe.px re⟩
  refine ⟨by rw [r1.length, l1]; exact hl, fun a ha => ⟨a, He.ga K n, vs ++ dvs, rfl, by rw [List.length_append, r1.length, l1, (hd H).length]; exact hm, hT, upd_same, fun dx h2 h3 => ?_⟩⟩
  have hdx : H1 dx = none := by rw [upd_ne h3] at h2; exact h2
  refine ⟨rfl, dx, _, upd_same, by rw [upd_ne h3, upd_same], hdx, ?_⟩
  rw [mk_heap ha h3]
  obtain ⟨s2, e2⟩ := s1.new (o := .xd (gV (vs ++ dvs))) hdx
  refine pe.ex _ cs1 σ ρ ⟨n, g (ds ++ dds)⟩ _ (s2.from_ s1.gr) (re.mono (s1.gr.trans s2.gr)) ⟨dx, _, rfl, e2, (hg _ _ _ (r1.append (hd _))).mono s2.gr⟩ h1
variable {x : Str} {fI : Addr} {k : Nat} {fd : FuncData} {ps : List Str} {ds : List Value} {p pos pos' : Pos} {e : Expr} {es : List Expr}
/-- raise C() -/
theorem ds_raise0 (hc : X.calm = true) (tk : Takes X W) (hT : XcC X.K (He.ga X.K x)) (iC : PySem.W.findIn X.K (.ref (He.ga X.K x)) "__init__" = some (some (.ref fI))) (tI : PySem.W.typeIn X.K (.ref fI) = some (.type "function"))
    (FI : FnOk X.prog X.w X.K X.mg X.base (L2.CX X.prog X.w) k fI fd ps (spX X.K l gV)) (hr : Room (k + 1) X.A) (hb : Binds X.K fd ps ds) (hd : Vals dvs ds) (hdd : ∀ G, RepL X.K G dvs dds) (hn : 0 + dds.length = l) (hg : FldOk X.K gV g) (hgl : Gl X x) (hm : X.mg x = some (.ref (He.ga X.K x)))
    (hdb : (x == ("__debug__" : Str)) = false := by decide) : DS X W (.Raise (some (.Call (.Name x p) [] [] pos)) none pos') (sRaise x (fun ds => g (ds ++ dds)) wNil) :=
  PS.imp (ps_raise hc tk (pmk_oex0 hT.o iC tI FI hr hb hd noOut hgl hm hdb)) fun E σ H h => by
    have z := raise_ok (m := 0) hT hg hdd hn (by decide) h
    obtain ⟨F, cs, ρ, P, Z, s, re, hw, pe, px⟩ := z
    exact pe H cs [] [] s .nil rfl hw
/-- raise C(e, ..) -/
theorem ds_raise (hc : X.calm = true) (tk : Takes X W) (hT : XcC X.K (He.ga X.K x)) (iC : PySem.W.findIn X.K (.ref (He.ga X.K x)) "__init__" = some (some (.ref fI))) (tI : PySem.W.typeIn X.K (.ref fI) = some (.type "function"))
    (FI : FnOk X.prog X.w X.K X.mg X.base (L2.CX X.prog X.w) k fI fd ps (spX X.K l gV)) (hr : Room (k + 1) X.A) (hb : Binds X.K fd ps ds) (hd : Vals dvs ds) (hdd : ∀ G, RepL X.K G dvs dds) (hn : (e :: es).length + dds.length = l) (hl : (e :: es).length ≤ 1000) (hg : FldOk X.K gV g) (hgl : Gl X x) (hm : X.mg x = some (.ref (He.ga X.K x)))
    (ha : DA X W (e :: es) w) (hdb : (x == ("__debug__" : Str)) = false := by decide) (he : starEach (e :: es) X.env = (false, eval e X.env) :: starEach es X.env := by rfl) (hpl : (backTo pos (starEach es X.env)).any (·.1) = false := by rfl) :
    DS X W (.Raise (some (.Call (.Name x p) (e :: es) [] pos)) none pos') (sRaise x (fun ds => g (ds ++ dds)) w) :=
  PS.imp (ps_raise hc tk (pmk_oex hT.o iC tI FI hr hb hd noOut hgl hm ha hdb he hpl)) fun E σ H h => raise_ok hT hg hdd hn hl h
end
end DL

/-! DLLam: lambdas without parameters handed to a def; try with several clauses, with names. -/
namespace DL
open PySem PySem.Spec PyProof.Rows L2 LamX
theorem Un.less {a : Addr} {fs : List Addr} {H H' : Hp} {h h' : Heap} (u : Un (a :: fs) [] H H' h h') (n : h.get? a = none) : Un fs [] H H' h h' := by
  have ne : ∀ {b : Addr} {o : Obj}, h.get? b = some o → b ≠ a := fun {b o} e z => by
    rw [z, n] at e; cases e
  exact {
    keep := fun b o e q nf nx => u.keep b o e q (fun z => (List.mem_cons.mp z).elim (ne e) nf) nx
    slot := fun b o e q f nx => u.slot b o e q (List.mem_cons_of_mem _ f) nx
    free := u.free
    there := u.there
    tups := u.tups
    frzs := u.frzs
    tbls := u.tbls }
/-! ### a lambda made -/
/-- what a table tells: each code object bears the name q -/
def TabT (H : Hp) (ps : Array Value) (q : Str) : Prop := TriplesOk ps.toList ∧ ∀ (pos : Pos) (cv : Value), codeAmong pos ps.toList = some cv → ∃ c, cv = .ref c ∧ H c = some (CodeO c q)
section
variable {X : Cx} {pins : List (Addr × Obj)} {σ : L2.St} {H : Hp} {s : Shared}
/-- the object of the lambda -/
abbrev lamO (X : Cx) (params : Arguments) (body : Expr) (scope : Scope) (pm ctv : Value) (c' : Addr) : Obj :=
  PySem.W.kla_obj "<lambda>" (X.env.qual ++ "<lambda>") params body scope (cloFrom X.env.cells scope.names []) pm c' ctv
/-- the heap behind the making: the same, or a code object more -/
inductive LamH (H : Hp) (P c' : Addr) (q : Str) (ps : Array Value) : Hp → Prop
  | hit : H c' = some (CodeO c' q) → LamH H P c' q ps H
  | new {p1 : Array Value} : H c' = none → TriplesOk p1.toList → (∀ (pos : Pos) (cv : Value), codeAmong pos p1.toList = some cv → codeAmong pos ps.toList = some cv ∨ cv = .ref c') → LamH H P c' q ps (upd (upd H P (.tbl p1)) c' (CodeO c' q))
theorem lam_make {c P : Addr} {ps : Array Value} {params : Arguments} {body : Expr} {scope : Scope} {pos : Pos} {E Q : Value → Shared → Prop} (I : Inv X pins σ H s) (TB : TabB X.base X.mg c P) (hcode : X.env.code = .ref c)
    (hP : H P = some (.tbl ps)) (hT : TabT H ps (X.env.qual ++ "<lambda>")) (hdef : defaultsOf params X.env = ([], [])) (hfree : ∀ y ∈ scope.names, y.2 = .free → ∃ c, X.env.cells.lookup y.1 = some c)
    (h : ∀ (f c' : Addr) (pm ctv : Value) (H1 : Hp) (s' : Shared), Inv X pins σ H1 s' → LamH H P c' (X.env.qual ++ "<lambda>") ps H1 → s'.heap.get? f = some (lamO X params body scope pm ctv c') → H1 f = none → f ∉ frs X.stack → Q (.ref f) s') :
    wpAny (model X.prog X.w) X.A (eval (.Lambda params body scope pos) X.env) Q E s := by
  obtain ⟨tOk, tIn⟩ := hT
  have kB : s.heap.BuiltinsAt X.mg P := TB.bm.keeps I.bk
  have kC := TB.code.keeps I.bk
  have kG := I.mod.glob.keeps I.bk
  have obP : s.heap.get? P = some { cls := .none, data := .fields ps } := I.hok P _ hP
  have far : ∀ f, s.heap.objs.size ≤ f → f ∉ frs X.stack := fun f le z => by
    rcases List.mem_cons.mp (I.stkSub _ z) with e | e
    · exact Nat.lt_irrefl _ (Nat.lt_of_lt_of_le (e ▸ I.lt) le)
    · exact I.nofs le e
  apply PySem.W.kla_eval hdef
  rcases hc : codeAmong pos ps.toList with _ | cv
  · apply PySem.W.kla_makeFunction (mg := X.mg) (c := c) (P := P) (ps := ps) (closure_ok hfree) I.ok.glob kG hcode kC obP tOk hc TB.gP kB
    intro c' ctv h' tk ext cge clt crec tab
    obtain ⟨c2, oc, fvs, t, e2, hoc, hd, hv⟩ := crec
    cases e2
    have nc : H c' = none := I.hok.fresh cge
    have le : s.heap.objs.size ≤ h'.objs.size := Nat.le_trans cge (Nat.le_of_lt clt)
    have J := inv_table (t' := tk) (q := X.env.qual ++ "<lambda>") (more := #[rawInt pos.line, rawInt pos.col, .ref c']) (h' := h'.push (lamO X params body scope ((X.mg "__name__").getD .none) ctv c')) I hP
      (fun b o hb e => Heap.get?_push_of_some _ (ext b o hb e)) (Heap.get?_push_of_some _ tab) cge ⟨oc, fvs, t, Heap.get?_push_of_some _ hoc, hd, hv⟩
    have eL : (ps ++ #[rawInt pos.line, rawInt pos.col, .ref c']).toList = ps.toList ++ [rawInt pos.line, rawInt pos.col, .ref c'] := by simp
    refine h h'.objs.size c' _ ctv _ _ J (.new nc ?_ fun p' cv z => ?_) (Heap.get?_push_size _ rfl) ?_ (far _ le)
    · rw [eL]; exact PySem.TriplesOk_snoc _ _ _ _ tOk
    · rw [eL] at z; exact among_app _ tOk z
    · have a1 : h'.objs.size ≠ c' := Nat.ne_of_gt clt
      have a2 : h'.objs.size ≠ P := Nat.ne_of_gt (Nat.lt_of_lt_of_le (Heap.lt_size obP) le)
      rw [upd_ne a1, upd_ne a2]
      exact I.hok.fresh le
  · obtain ⟨c', rfl, hco⟩ := tIn pos cv hc
    apply PySem.W.kla_makeFunctionHit (mg := X.mg) (c := c) (P := P) (ps := ps) (closure_ok hfree) I.ok.glob kG hcode kC obP tOk hc kB
    intro ctv h' tk ext le
    refine h h'.objs.size c' _ ctv H _ (I.kept (t' := tk) fun b o e => Heap.get?_push_of_some _ (ext b o e)) (.hit hco) (Heap.get?_push_size _ rfl) (I.hok.fresh le) (far _ le)
end
/-! ### what may be called without arguments -/
structure Thunk (P : Program) (w : World) (K : PySem.W.Frag) (mg : Str → Option Value) (base : Heap) (k : Nat) (fs : List Addr) (H : Hp) (s : Shared) (f c' : Addr) (q : Str) (t : XK → Hp → VK → Prop) : Prop where
  obj : ∃ o fd, s.heap.get? f = some o ∧ o.data = .func fd ∧ o.cls = .type "function" ∧ o.dict = none ∧ o.slots = #[]
  no : H f = none
  nf : f ∉ fs
  run : ∀ (A : Around) (outer : List PySem.Env) (s1 : Shared) (H1 : Hp) (Q : VK) (E : XK), Room k A → Env0 P w K mg base A outer s1 H1 → Un fs [] H H1 s.heap s1.heap → H1 c' = some (CodeO c' q) → t E H1 Q →
    codeAny (model P w) A (.call (.ref f) ⟨[], []⟩) (CR (L2.CX P w) outer P w H1 s1 Q E) s1
theorem lam_thunk {X : Cx} {pins : List (Addr × Obj)} {σ : L2.St} {H : Hp} {s : Shared} {f c' : Addr} {pm ctv : Value} {params : Arguments} {body : Expr} {scope : Scope} {k : Nat} {t : XK → TE} (I : Inv X pins σ H s) (L : LamS X.env.scope scope)
    (hf : s.heap.get? f = some (lamO X params body scope pm ctv c')) (hfn : H f = none) (hfr : f ∉ frs X.stack)
    (hbind : ∀ (q : Str) (cl : List (Str × Addr)) (pm cv ctv : Value), bindArgs (PySem.W.kla_fn "<lambda>" q params body scope cl pm cv ctv) ⟨[], []⟩ = pure [])
    (hbody : ∀ (A : Around) (outer : List PySem.Env) (s : Shared) (H : Hp) (E : XK), Room k (A.deeper (lamEnv X scope s.heap.objs.size f c')) → PE (lamCx X A outer s H E scope f c') body (t E)) :
    Thunk X.prog X.w X.K X.mg X.base (k + 1) (frs X.stack) H s f c' (X.env.qual ++ "<lambda>") (fun E H Q => t E σ H Q) := by
  refine ⟨⟨_, _, hf, rfl, rfl, rfl, rfl⟩, hfn, hfr, fun A outer s1 H1 Q E hr e0 un hc ht => ?_⟩
  have of1 := un.keep f _ hf hfn hfr (by simp)
  obtain ⟨⟨oc, fvs, tx, hoc, hdc, hvc⟩, _, _⟩ := e0.hok c' _ hc
  have lim : s1.heap.NoLimit := e0.mod.nolimit.keeps fun b o e => (e0.bs b o e).1
  refine PySem.W.kla_callFunE hr.depth of1 rfl L.co L.gen rfl ⟨c', oc, fvs, tx, rfl, hoc, hdc, hvc⟩ ?_
  rw [hbind]
  refine wpAny_pure (wpAny_newFunctionEnv (fun y hy => (L.own y hy).2) (fun y hy => absurd hy (by simp)) (fun h1 hns hsb => ⟨lim.fresh _ hsb, ?_⟩) L.kind)
  have kp : ∀ b o, s1.heap.get? b = some o → h1.get? b = some o := fun b o e => hsb.extBut b o (Nat.ne_of_lt (Heap.lt_size e)) (Heap.get?_push_of_some _ e)
  have J := lam_start2 (E := E) (f := f) (c' := c') (tk := s1.toks + ([] : List (Str × Value)).length) I L e0 hr.hd un hns kp
  refine PySem.W.kla_codeExpr (wpAny_mono ((hbody _ _ s1 H1 E (hr.deeper _)).run [] _ _ H1 Q J ht) (fun v s' hq => ?_) fun e s' hq => hq)
  obtain ⟨w', H', J', rv, q⟩ := hq
  exact ⟨w', H', J'.os, J'.bare, J'.base, J'.hok, rv, q⟩
/-- x(), x a slot that holds the thunk; Z: the def that got it, entered at s -/
theorem pe_thunk {Z : Cx} {W : WX} {i k : Nat} {a : Str} {f c' : Addr} {q : Str} {t : XK → Hp → VK → Prop} {p1 p2 : Pos} (th : Thunk Z.prog Z.w Z.K Z.mg Z.base k Z.fs Z.H_0 Z.s_0 f c' q t) (hex : Z.ex = []) (tk : Takes Z W) (hr : Room k Z.A)
    (hN : Z.N[i]? = some a) (hv : Vis Z.env.scope a) (hd : (a == ("__debug__" : Str)) = false := by decide) (hcd : (a == ("__classdict__" : Str)) = false := by decide) :
    PE Z (.Call (.Name a p1) [] [] p2) (fun σ H Q => σ[i]? = some (some (.ref f)) ∧ H c' = some (CodeO c' q) ∧ ∃ (E' : XK) (Q' : VK), (∀ c d H, E' c d H → W c d σ H) ∧ (∀ v H, Q' v H → Q v H) ∧ t E' H Q') := by
  refine ⟨fun pins s σ H Q I h => ?_⟩
  obtain ⟨hs, hc, E', Q', hE, hQ, ht⟩ := h
  refine wpAny_Call_Name_kw (thn ((pe_var (pos := p1) (i := i) hN hv hd hcd).run pins s σ H (fun v H1 => v = .ref f ∧ H1 = H) I ⟨.ref f, hs, rfl, rfl⟩) fun u s1 ⟨v, H1, I1, r1, q1⟩ => ?_)
  obtain ⟨rfl, rfl⟩ := q1
  obtain rfl : u = Value.ref f := r1
  have un : Un Z.fs [] Z.H_0 H1 Z.s_0.heap s1.heap := hex ▸ I1.base
  obtain ⟨o, fd, o1, o2, o3, o4, o5⟩ := th.obj
  obtain ⟨oc, od, odt, osl⟩ := o
  subst o2 o3 o4 o5
  have of1 := un.keep f _ o1 th.no th.nf (by simp)
  refine PySem.W.callWith_F0 ⟨_, _, _, _, of1⟩ (wpAny_call (codeAny_mono (th.run Z.A Z.stack s1 H1 Q' E' hr I1.env0 un hc ht) fun r s' hq => ?_))
  cases r with
  | error e => exact tk e s' (XE.of_call I1 (fun c d H z => hE c d H z) hq)
  | ok fl => cases fl <;> first | exact (fun ⟨v, H', J, rv, z⟩ => ⟨v, H', J, rv, hQ v H' z⟩ : EP Z pins σ Q' _ _ → EP Z pins σ Q _ _) (I1.after hq) | exact False.elim hq
/-! ### a def that takes a thunk -/
/-- TT: what it makes of the thunk's reading; it wants j rooms more than the thunk -/
def TkOk (P : Program) (w : World) (K : PySem.W.Frag) (mg : Str → Option Value) (base : Heap) (j : Nat) (g : Addr) (TT : (XK → Hp → VK → Prop) → XK → Hp → VK → Prop) : Prop :=
  ∀ (k : Nat) (A : Around) (outer : List PySem.Env) (s : Shared) (H : Hp) (f c' : Addr) (q : Str) (t : XK → Hp → VK → Prop) (Q : VK) (E : XK), Room (k + j) A → Env0 P w K mg base A outer s H → Thunk P w K mg base k (frs outer) H s f c' q t → H c' = some (CodeO c' q) → TT t E H Q →
    codeAny (model P w) A (.call (.ref g) ⟨[.ref f], []⟩) (CR (L2.CX P w) outer P w H s Q E) s
theorem tk_of {P : Program} {w : World} {K : PySem.W.Frag} {mg : Str → Option Value} {base : Heap} {j : Nat} {x : Str} {params : Arguments} {body : List Stmt} {scope : Scope} {g : Addr} {fd : FuncData} {TT : (XK → Hp → VK → Prop) → XK → Hp → VK → Prop} {N : List Str} {a : Str}
    (F : FunD K x x params body scope [] [] g fd) (S : FnScope N [a] scope) (hb : Binds K fd [a] [])
    (hbody : ∀ (k : Nat) (cdv : Value) (A : Around) (outer : List PySem.Env) (s : Shared) (H : Hp) (f c' : Addr) (q : Str) (t : XK → Hp → VK → Prop) (Q : VK) (E : XK), Room (k + j) (A.deeper (envOfC x scope s.heap.objs.size g cdv)) → Thunk P w K mg base k (frs outer) H s f c' q t → H c' = some (CodeO c' q) → TT t E H Q →
      ∃ u, PSs (cxD P w K mg base N x scope g cdv A outer s H E) body u ∧ u { nx := fun _ H' => Q .non H', rt := Q } (L2.start N [.ref f]) H) : TkOk P w K mg base (j + 1) g TT := by
  intro k A outer s H f c' q t Q E hr e0 th hc h
  obtain ⟨oc, od, dV, kV, doc, pm, an, cdv, ct, osl, rfl, lk, hcd, _, _⟩ := F.ex
  have kin : K.In s.heap := e0.mod.kin.keeps fun b o e => (e0.bs b o e).1
  exact run_ofS (k := k + j) (us := [.ref f]) (vs := [.ref f]) lk hcd S hr e0 (hb s [.ref f] kin rfl) (.cons rfl .nil) rfl fun hr' => hbody k cdv A outer s H f c' q t Q E hr' th hc h
/-! ### try: body, several clauses, each with or without a name -/
section
variable (K : PySem.W.Frag) (Wout : WX) (D : Ends)
/-- the ends behind a clause: its name goes -/
def endsN : Option Nat → Ends
  | none => D
  | some i => { nx := fun σ H => D.nx (σ.set i none) H, rt := D.rt, bk := fun σ H => D.bk (σ.set i none) H, ct := fun σ H => D.ct (σ.set i none) H }
def slotN (a : Addr) (σ : L2.St) : Option Nat → L2.St
  | none => σ
  | some i => σ.set i (some (.ref a))
/-- what the clauses wish, one behind another: the class, the name's slot, the suite -/
def wCls : List (Value × Option Nat × (Addr → Value → Option Addr → TS)) → WX
  | [] => Wout
  | (c, oi, ts) :: r => fun cls d σ H => ∃ b, PySem.W.exmOne K cls c = some b ∧ (b = true → ∀ a, H a = none → ts a cls d (endsN D oi) (slotN a σ oi) H) ∧ (b = false → wCls r cls d σ H)
end
/-- a clause's name -/
inductive NameN (X : Cx) : Option Str → Option Nat → Prop
  | no : NameN X none none
  | yes {n : Str} {i : Nat} : X.N[i]? = some n → X.env.kindOf n = some .local → NameN X (some n) (some i)
inductive ClsOk (X : Cx) : List ExceptHandler → List (Value × Option Nat × (Addr → Value → Option Addr → TS)) → Prop
  | nil : ClsOk X [] []
  | cons {x : Str} {c : Value} {on : Option Str} {oi : Option Nat} {ts : Addr → Value → Option Addr → TS} {b0 : Stmt} {su : List Stmt} {p1 p2 : Pos} {hs : List ExceptHandler} {l : List (Value × Option Nat × (Addr → Value → Option Addr → TS))} (hc : Names X x c) (hn : NameN X on oi)
      (hsu : ∀ (a : Addr) (ob : Obj) (cls : Value) (d : Option Addr) (pn : List (Addr × Obj)), Zc cls d ob → (∃ vs, ob.data = .fields vs) → PSs (X.suite a ((a, ob) :: pn)) (b0 :: su) (ts a cls d)) (r : ClsOk X hs l) :
      ClsOk X (.ExceptHandler (some (.Name x p1)) on (b0 :: su) p2 :: hs) ((c, oi, ts) :: l)
section
variable {X : Cx} {body : List Stmt} {h0 : ExceptHandler} {hs : List ExceptHandler} {l : List (Value × Option Nat × (Addr → Value → Option Addr → TS))} {pos : Pos} {tb : WX → TS} {Wout : WX}
/-- behind a suite with a name: the context of the whole statement again -/
theorem suite_end {pins : List (Addr × Obj)} {D : Ends} {a : Addr} {ob : Obj} {i : Nat} {n : Str} {f : Flow} {s6 : Shared} {p2 : Pos} (ok : X.Ok) (hN : X.N.Nodup) (hi : X.N[i]? = some n) (hk : X.env.kindOf n = some .local)
    (h : SP (X.suite a ((a, ob) :: (X.pn ++ pins))) [] (endsN D (some i)) f s6) : wpAny (model X.prog X.w) X.A (do bindName X.env n .none; unbindBehindTheSuite X.env n p2) (fun _ s7 => SP X pins D f s7) X.xe s6 := by
  cases f with
  | ret u => obtain ⟨v, σ6, H6, S6, r6, q6⟩ := h; exact gone_ok (S6.unsuite ok) hN hi hk fun s7 J => ⟨_, _, _, J, r6, q6⟩
  | next => obtain ⟨σ6, H6, S6, q6⟩ := h; exact gone_ok (S6.unsuite ok) hN hi hk fun s7 J => ⟨_, _, J, q6⟩
  | brk => obtain ⟨σ6, H6, S6, q6⟩ := h; exact gone_ok (S6.unsuite ok) hN hi hk fun s7 J => ⟨_, _, J, q6⟩
  | cont => obtain ⟨σ6, H6, S6, q6⟩ := h; exact gone_ok (S6.unsuite ok) hN hi hk fun s7 J => ⟨_, _, J, q6⟩
theorem ps_try_cls (hst : X.stack = X.env :: X.outer) (hf : X.env.frame = some X.env.locals) (hN : X.N.Nodup) (tk : Takes X Wout)
    (hb : ∀ (W : WX) (pn : List (Addr × Obj)) (xe : Value → Shared → Prop), Takes (X.tr pn xe) W → PassesOwn (model X.prog X.w) X.A X.env xe → PSs (X.tr pn xe) body (tb W))
    (hh : ClsOk X (h0 :: hs) l) : PS X (.Try body (h0 :: hs) [] [] pos) (fun D σ H => tb (wCls X.K Wout D l) D σ H) := by
  refine ⟨fun pins s σ H D I h => ?_⟩
  have ok := I.ok
  have hfr : X.A.frames = some (X.env :: X.outer) := by rw [ok.frames, hst]
  apply wpAny_Try_except
  let xe' : Value → Shared → Prop := fun e s₁ => wpAny (model X.prog X.w) X.A (noteFrame e X.env) (fun _ s₂ => wpAny (model X.prog X.w) X.A (setFlight e none)
    (fun _ s₃ => wpAny (model X.prog X.w) X.A (handleBy e X.env (h0 :: hs)) (SP X pins D) X.xe s₃) X.xe s₂) X.xe s₁
  have tk' : Takes (X.tr (X.pn ++ pins) xe') (wCls X.K Wout D l) := by
    rintro u s' ⟨a, B, sI, pins', σ', H', cls, d, rfl, J', nb, up, sky, na, os, ag, w⟩
    have J : Inv X pins σ' H' sI := J'.ofTry ok
    have sk : Sky B (X.env :: X.outer) a (Zc cls d) X.env.locals s'.heap := hst ▸ sky
    refine Sky.land Zc.steady hfr hf sk fun h3 fl3 up3 => ?_
    have J3 : Inv X pins σ' H' { s' with heap := h3 } := J.landed nb fl3.1 (up.trans up3) os ag
    obtain ⟨ob3, vs3, hob3, hz3, hd3⟩ := fl3.there
    have nfr : a ∉ frs (X.env :: X.outer) := fun hm => by
      obtain ⟨_, o', e', hnf⟩ := fl3.2.2.1.mem hm
      rw [hob3] at e'; cases e'
      exact hnf _ hd3
    have nL : a ≠ X.env.locals := fun z => nfr (List.mem_filterMap.mpr ⟨X.env, List.mem_cons_self, by rw [hf, z]⟩)
    have nF : a ∉ X.fs := fun hm => by
      obtain ⟨e, he, q⟩ := List.mem_filterMap.mp hm
      exact nfr (List.mem_filterMap.mpr ⟨e, List.mem_cons_of_mem _ he, q⟩)
    have S3 := J3.suite hob3 hd3 na nL nF
    have go : ∀ {hs' : List ExceptHandler} {l' : List (Value × Option Nat × (Addr → Value → Option Addr → TS))}, ClsOk X hs' l' → wCls X.K Wout D l' cls d σ' H' →
        wpAny (model X.prog X.w) X.A (handleBy (.ref a) X.env hs') (SP X pins D) X.xe { s' with heap := h3 } := by
      intro hs' l' hk
      induction hk with
      | nil =>
        intro w
        apply wpAny_handleBy_nil
        obtain ⟨k1, k2, k3, ob, vs, T, oT, ts', hob, hz, hd, h1, hr⟩ := id fl3
        unfold PySem.passOn
        refine wpAny_bind (wpAny_field hob hd h1 ?_)
        rw [if_neg (show ¬ ((Value.ref T == Value.none) = true) from by simp)]
        have fin : wpAny (model X.prog X.w) X.A (setFlight (.ref a) X.env.frame) (fun _ s4 => wpAny (model X.prog X.w) X.A (throw (.ref a) : Sem Flow) (SP X pins D) X.xe s4) X.xe { s' with heap := h3 } := by
          rw [hf]
          refine HandSPX.setFlight_upZ fl3 fun h4 hh4 up4 => wpAny_throw (tk _ _ ⟨a, B, sI, pins, σ', H', cls, d, rfl, J, nb, (up.trans up3).trans up4, ?_, na, os, ag, w⟩)
          rw [hst]; exact .inr (.inr hh4)
        first
          | exact wpAny_bind (wpAny_pure (wpAny_bind fin))
          | exact wpAny_bind fin
      | @cons x c on oi ts b0 su p1 p2 hs2 l2 hc hn hsu r ih =>
        rintro ⟨b, hb1, hyes, hnot⟩
        refine wpAny_handleBy_cons (codeAny_handlers_test ?_) (by intro q; cases q)
        have LT : PySem.W.Looks (model X.prog X.w) h3 (typeOf (.ref a)) cls := fun A Q E s k q => wpAny_typeOf_ref (k _ _ hob3) (by rw [hz3.1]; exact q)
        have LM := PySem.W.exm_one (M := model X.prog X.w) J3.kIn LT hb1
        have test : ∀ {Q E : Value → Shared → Prop}, Q c { s' with heap := h3 } → wpAny (model X.prog X.w) (X.A.mark (some (.ref a))) (eval (.Name x p1) X.env) Q E { s' with heap := h3 } := fun {Q E} q => by
          obtain ⟨hg, hdbg, hm | ⟨hm, hv, hnn⟩⟩ := hc
          · exact ld_glob (X := X.suite a ((a, ob3) :: (X.pn ++ pins))) S3 hg hm q hdbg
          · exact ld_blt (X := X.suite a ((a, ob3) :: (X.pn ++ pins))) S3 hg hm hv q hnn hdbg
        refine test (LM.here ?_)
        cases b with
        | false => exact ih (hnot rfl)
        | true =>
          cases hn with
          | no =>
            apply codeAny_handlers_suite
            refine HandSPX.lands_againZ fl3 fun h4 fl4 up4 => ?_
            have J4 : Inv X pins σ' H' { s' with heap := h4 } := J.landed nb fl4.1 ((up.trans up3).trans up4) os ag
            obtain ⟨ob4, vs4, hob4, hz4, hd4⟩ := fl4.there
            refine wpAny_mono ((hsu a ob4 cls d (X.pn ++ pins) hz4 ⟨_, hd4⟩).run [] _ σ' H' (endsN D none) (J4.suite hob4 hd4 na nL nF) (hyes rfl a na)) (fun f s6 hsp => ?_) (fun _ _ z => False.elim z)
            cases f with
            | ret u => obtain ⟨v, σ6, H6, S6, r6, q6⟩ := hsp; exact ⟨_, _, _, S6.unsuite ok, r6, q6⟩
            | next => obtain ⟨σ6, H6, S6, q6⟩ := hsp; exact ⟨_, _, S6.unsuite ok, q6⟩
            | brk => obtain ⟨σ6, H6, S6, q6⟩ := hsp; exact ⟨_, _, S6.unsuite ok, q6⟩
            | cont => obtain ⟨σ6, H6, S6, q6⟩ := hsp; exact ⟨_, _, S6.unsuite ok, q6⟩
          | yes hi hk =>
            apply codeAny_handlers_suite_as
            refine HandSPX.lands_againZ fl3 fun h4 fl4 up4 => ?_
            have J4 : Inv X pins σ' H' { s' with heap := h4 } := J.landed nb fl4.1 ((up.trans up3).trans up4) os ag
            obtain ⟨ob4, vs4, hob4, hz4, hd4⟩ := fl4.there
            refine store_ok (X := X.suite a ((a, ob4) :: (X.pn ++ pins))) (v := .ref a) (J4.suite hob4 hd4 na nL nF) hN hi (.inl hk) rfl (fun s5 S5 => ?_) (.inr hk)
            refine wpAny_mono ((hsu a ob4 cls d (X.pn ++ pins) hz4 ⟨_, hd4⟩).run [] s5 _ H' (endsN D (some _)) S5 (hyes rfl a na)) (fun f s6 hsp => ?_) (fun _ _ z => False.elim z)
            exact suite_end (D := D) ok hN hi hk hsp
    exact go hh w
  refine wpAny_mono ((hb (wCls X.K Wout D l) (X.pn ++ pins) xe' tk' PassesOwn.looking).run [] s σ H D (I.toTry _) h) (fun f s1 hsp => ?_) (fun e s1 he => he)
  cases f with
  | ret u => obtain ⟨v, σ', H', J', r, q⟩ := hsp; exact ⟨v, σ', H', J'.ofTry ok, r, q⟩
  | brk => obtain ⟨σ', H', J', q⟩ := hsp; exact ⟨σ', H', J'.ofTry ok, q⟩
  | cont => obtain ⟨σ', H', J', q⟩ := hsp; exact ⟨σ', H', J'.ofTry ok, q⟩
  | next => obtain ⟨σ', H', J', q⟩ := hsp; exact wpAny_execs_nil ⟨σ', H', J'.ofTry ok, q⟩
end
end DL

/-! DLLb: g(lambda: e) over data; what _law_ask, _law_why make of it. -/
namespace DL
open PySem PySem.Spec PyProof.Rows L2 LamX
/-! ### g(lambda: e) -/
/-- TT lifted -/
def TkD (K : PySem.W.Frag) (TT : (XK → Hp → VK → Prop) → XK → Hp → VK → Prop) (T : DL.WE → DL.WE) : Prop :=
  ∀ (σ : L2.St) (E : XK) (we : DL.WE) (H : Hp) (Q : VK), lE K (fun cls d _ H => E cls d H) (T we) σ H Q → TT (fun E H' Q' => lE K (fun cls d _ H => E cls d H) we σ H' Q') E H Q
def wLam (p : Addr) (q : Str) (T : DL.WE → DL.WE) (we : DL.WE) : DL.WE := fun ρ cs P Z => look p cs = some (.tbl q) ∧ T we ρ cs P Z
theorem tbl_at {K : PySem.W.Frag} {F G0 H : Hp} {cs : Cs} {p : Addr} {q : Str} (s : Sta K F G0 cs H) (h : look p cs = some (.tbl q)) : ∃ ps, H p = some (.tbl ps) ∧ TabT (pur F cs H) ps q := by
  obtain ⟨o, e, z⟩ := s.look h
  cases o <;> first | exact ⟨_, e, z⟩ | exact z.elim
theorem TabT.le {H H' : Hp} {ps : Array Value} {q : Str} (t : TabT H ps q) (e : Ex H H') : TabT H' ps q := ⟨t.1, fun pos cv hc => by
  obtain ⟨c, e1, e2⟩ := t.2 pos cv hc
  exact ⟨c, e1, e _ _ e2⟩⟩
theorem sta_lam {K : PySem.W.Frag} {F H H1 : Hp} {cs : Cs} {p c' : Addr} {q : Str} {ps : Array Value} (s : Sta K F (pur F cs H) cs H) (hl : look p cs = some (.tbl q)) (hp : H p = some (.tbl ps)) (t : TabT (pur F cs H) ps q) (h : LamH H p c' q ps H1) :
    Sta K F (pur F cs H) cs H1 ∧ H1 c' = some (CodeO c' q) := by
  cases h with
  | hit e => exact ⟨s, e⟩
  | @new p1 hn hok hin =>
    obtain ⟨s1, e1⟩ := s.new (o := CodeO c' q) hn
    have hpc : p ≠ c' := ne_of_none hp hn
    have s2 := s1.put hl (m' := .tbl q) (o' := .tbl p1) ⟨hok, fun pos cv hc => by
      rcases hin pos cv hc with z | z
      · obtain ⟨c, a1, a2⟩ := t.2 pos cv z
        exact ⟨c, a1, s1.gr _ _ a2⟩
      · exact ⟨c', z, e1⟩⟩
    rw [put_look hl] at s2
    have e2 : upd (upd H c' (CodeO c' q)) p (.tbl p1) = upd (upd H p (.tbl p1)) c' (CodeO c' q) := by
      funext b
      by_cases h1 : b = p
      · subst h1; rw [upd_same, upd_ne hpc, upd_same]
      · by_cases h2 : b = c'
        · subst h2; rw [upd_ne h1, upd_same, upd_same]
        · rw [upd_ne h1, upd_ne h2, upd_ne h2, upd_ne h1]
    rw [e2] at s2
    exact ⟨s2.from_ s1.gr, upd_same⟩
section
variable {X : Cx} {W : WX}
theorem d_lam {j k : Nat} {TT : (XK → Hp → VK → Prop) → XK → Hp → VK → Prop} {T : DL.WE → DL.WE} {we : DL.WE} {g c pt : Addr} {q x : Str} {params : Arguments} {body : Expr} {scope : Scope} {p lpos pos : Pos} (tko : TkOk X.prog X.w X.K X.mg X.base j g TT) (td : TkD X.K TT T) (tk : Takes X W) (hr : Room (k + 1 + j) X.A)
    (hg : Gl X x) (hm : X.mg x = some (.ref g)) (hk : PySem.W.keepIn X.K (.ref g) = true) (TB : TabB X.base X.mg c pt) (hcode : X.env.code = .ref c) (L : LamS X.env.scope scope)
    (hbody : ∀ (A : Around) (outer : List PySem.Env) (s : Shared) (H : Hp) (E : XK) (f c' : Addr), Room k (A.deeper (lamEnv X scope s.heap.objs.size f c')) → DE (lamCx X A outer s H E scope f c') (fun cls d _ H => E cls d H) body we)
    (hq : X.env.qual ++ "<lambda>" = q := by rfl) (hdef : defaultsOf params X.env = ([], []) := by rfl)
    (hbind : ∀ (q : Str) (cl : List (Str × Addr)) (pm cv ctv : Value), bindArgs (PySem.W.kla_fn "<lambda>" q params body scope cl pm cv ctv) ⟨[], []⟩ = pure [] := by intros; rfl) (hdb : (x == ("__debug__" : Str)) = false := by decide) :
    DE X W (.Call (.Name x p) [.Lambda params body scope lpos] [] pos) (wLam pt q T we) := by
  refine ⟨fun pins s σ H Q I h => ?_⟩
  obtain ⟨F, cs, ρ, P, Z, st, re, ⟨hl, hw⟩, pe, px⟩ := h
  obtain ⟨ps, ht, tt⟩ := tbl_at st hl
  refine wpAny_Call_Name_kw (ld_glob I hg hm ?_ hdb)
  refine PySem.W.callWith_K (h₀ := X.base) I.ok.mod.kin hk ?_ (by rfl) (by rfl)
  show wpAny _ _ (spliced ((false, eval (.Lambda params body scope lpos) X.env) :: backTo pos (starEach [] X.env))) _ _ s
  refine Calls.spliced_cons (lam_make I TB hcode ht (hq ▸ tt.le pur_le) hdef (L.has I.ok) fun f c' pm ctv H1 s' I1 lh hf hfn hfr => Calls.spliced_nil ⟨I1.kIn, ?_⟩)
  rw [hq] at lh
  obtain ⟨s1, hc⟩ := sta_lam st hl ht tt lh
  have th := lam_thunk (k := k) (t := fun E => lE X.K (fun cls d _ H => E cls d H) we) I1 L hf hfn hfr hbind fun A outer s0 H0 E hr' => hbody A outer s0 H0 E f c' hr'
  have run := tko (k + 1) X.A X.stack s' H1 f c' (X.env.qual ++ "<lambda>") _ Q (L2.WE W σ) hr I1.env0 th (hq ▸ hc) (td σ (L2.WE W σ) we H1 Q ⟨F, cs, ρ, P, Z, s1.self, re.mono s1.gr, hw, pe.le s1.gr, px.le s1.gr⟩)
  refine wpAny_call (codeAny_mono run fun r s2 hq2 => ?_)
  cases r with
  | error e => exact passAt tk σ pins H1 s' e s2 I1 hq2
  | ok fl => cases fl <;> first | exact I1.after hq2 | exact False.elim hq2
end
/-! ### told, word = None, ""; try: told = ask() / except C1 as e: word = e.called / ..; return (told, word) -/
/-- the first clause that takes cls -/
def CaughtBy (K : PySem.W.Frag) (cls : Value) : List Value → Prop
  | [] => False
  | c :: r => ∃ b, PySem.W.exmOne K cls c = some b ∧ (b = false → CaughtBy K cls r)
/-- a caught exception, its field f -/
def FldAt (K : PySem.W.Frag) (f : Str) (cls : Value) (d : Option Addr) (H : Hp) (v : V) : Prop := ∃ (C dd : Addr) (fs : List (Str × V)), cls = .ref C ∧ XfC K C ∧ PySem.W.findIn K (.ref C) f = some none ∧ d = some dd ∧ H dd = some (.xd fs) ∧ fs.lookup f = some v
def retT (K : PySem.W.Frag) (vs : List V) (H : Hp) (Q : VK) : Prop := ∀ p, H p = none → Q (.ref p) (upd H p (.tup vs))
def TTask (K : PySem.W.Frag) (cl : List Value) (t : XK → Hp → VK → Prop) (_ : XK) (H : Hp) (Q : VK) : Prop :=
  ∀ p, H p = none → t (fun cls d H' => CaughtBy K cls cl ∧ ∃ v, FldAt K "called" cls d H' v ∧ retT K [.non, v] H' Q) (upd H p (.tup [.non, .str ""])) fun v H' => retT K [v, .str ""] H' Q
section
variable {P : Program} {w : World} {K : PySem.W.Frag} {mg : Str → Option Value} {base : Heap}
theorem tk_ask {x a to wo e c1 c2 c3 : Str} {params : Arguments} {scope : Scope} {g : Addr} {fd : FuncData} {C1 C2 C3 : Addr} {k1 k2 k3 : Nat} {p1 p2 p3 p4 p5 p6 p7 p8 p9 q1 q2 q3 q4 q5 q6 q7 q8 q9 r1 r2 r3 r4 r5 r6 r7 r8 r9 p10 p11 p12 p13 p14 p15 p16 : Pos} {j1 j2 : Nat}
    (F : FunD K x x params [.Assign [.Tuple [.Name to p1, .Name wo p2] k1 p3] (.Tuple [.Constant .none j1 p4, .Constant (.str "") j2 p5] k2 p6) p7,
      .Try [.Assign [.Name to p8] (.Call (.Name a p9) [] [] p10) p11]
        [.ExceptHandler (some (.Name c1 q1)) (some e) [.Assign [.Name wo q2] (.Attribute (.Name e q3) "called" q4) q5] q6, .ExceptHandler (some (.Name c2 q7)) (some e) [.Assign [.Name wo q8] (.Attribute (.Name e q9) "called" r1) r2] r3,
         .ExceptHandler (some (.Name c3 r4)) (some e) [.Assign [.Name wo r5] (.Attribute (.Name e r6) "called" r7) r8] r9] [] [] p12,
      Stmt.Return (some (.Tuple [.Name to p13, .Name wo p14] k3 p15)) p16] scope [] [] g fd)
    (S : FnScope [a, to, wo, e] [a] scope) (hb : Binds K fd [a] []) (l1 : scope.names.lookup a = some .local) (l2 : scope.names.lookup to = some .local) (l3 : scope.names.lookup wo = some .local) (l4 : scope.names.lookup e = some .local)
    (g1 : scope.names.lookup c1 = some .globalImplicit) (g2 : scope.names.lookup c2 = some .globalImplicit) (g3 : scope.names.lookup c3 = some .globalImplicit) (m1 : mg c1 = some (.ref C1)) (m2 : mg c2 = some (.ref C2)) (m3 : mg c3 = some (.ref C3))
    (hd : ∀ y ∈ [a, to, wo, e, c1, c2, c3], (y == ("__debug__" : Str)) = false ∧ (y == ("__classdict__" : Str)) = false) (hN : [a, to, wo, e].Nodup)
    (hsw : ∀ env : PySem.Env, env.scope = scope → swappedStores [.Tuple [.Name to p1, .Name wo p2] k1 p3] (.Tuple [.Constant .none j1 p4, .Constant (.str "") j2 p5] k2 p6) env = pure none) :
    TkOk P w K mg base 1 g (TTask K [.ref C1, .ref C2, .ref C3]) := by
  refine tk_of (j := 0) F S hb fun k cdv A outer s H f c' q t Q E hr th hc h => ?_
  have d1 := hd a (by simp)
  have suite : ∀ (ob : Obj) (ax : Addr) (cls : Value) (d : Option Addr) (pn : List (Addr × Obj)) (z1 z2 z3 z4 : Pos), Zc cls d ob → (∃ vs, ob.data = .fields vs) →
      PSs ((cxD P w K mg base [a, to, wo, e] x scope g cdv A outer s H E).suite ax ((ax, ob) :: pn)) [.Assign [.Name wo z1] (.Attribute (.Name e z2) "called" z3) z4] (fun D σ H => σ[3]? = some (some (.ref ax)) ∧ ∃ v, FldAt K "called" cls d H v ∧ D.nx (σ.set 2 (some v)) H) := by
    intro ob ax cls d pn z1 z2 z3 z4 hz hf
    refine ⟨fun pins s1 σ1 H1 D I hw => ?_⟩
    obtain ⟨hs3, v, ⟨C, dd, fs, rfl, xf, hno, rfl, hdd, hl⟩, hn⟩ := hw
    refine (pss_one (ps_set (i := 2) hN rfl (.inl l3) (pe_xf xf hno hz hf (pe_var (i := 3) rfl (.inl l4) (hd e (by simp)).1 (hd e (by simp)).2)) (hf := .inr l3))).run pins s1 σ1 H1 D I ?_
    exact ⟨.ref ax, hs3, rfl, rfl, dd, fs, v, rfl, hdd, hl, hn⟩
  refine ⟨_, pss_cons (ps_asg (pe_tup (pa_cons pe_non (pa_cons pe_str pa_nil))) (pg_tup rfl (pgs_cons (pg_name (i := 1) hN rfl (.inl l2) (.inr l2)) (pgs_cons (pg_name (i := 2) hN rfl (.inl l3) (.inr l3)) pgs_nil))) (hw := hsw _ rfl))
    (pss_cons (ps_try_cls rfl rfl hN takesD (fun W pn xe tk _ => pss_one (ps_set (i := 1) hN rfl (.inl l2) (pe_thunk (i := 0) (W := W) th rfl tk (hr.mono (by omega)) rfl (.inl l1) d1.1 d1.2) (hf := .inr l2)))
      (.cons ⟨g1, (hd c1 (by simp)).1, .inl m1⟩ (.yes (i := 3) rfl l4) (fun ax ob cls d pn hz hf => suite ob ax cls d pn _ _ _ _ hz hf)
        (.cons ⟨g2, (hd c2 (by simp)).1, .inl m2⟩ (.yes (i := 3) rfl l4) (fun ax ob cls d pn hz hf => suite ob ax cls d pn _ _ _ _ hz hf)
          (.cons ⟨g3, (hd c3 (by simp)).1, .inl m3⟩ (.yes (i := 3) rfl l4) (fun ax ob cls d pn hz hf => suite ob ax cls d pn _ _ _ _ hz hf) .nil))))
      (pss_one (ps_ret (pe_tup (pa_cons (pe_var (i := 1) rfl (.inl l2) (hd to (by simp)).1 (hd to (by simp)).2) (pa_cons (pe_var (i := 2) rfl (.inl l3) (hd wo (by simp)).1 (hd wo (by simp)).2) pa_nil)))))), ?_⟩
  refine ⟨by decide, fun pt hpt => ⟨pt, [.non, .str ""], rfl, SqT.of upd_same, rfl, .non, [.str ""], rfl, .str "", [], rfl, rfl, ?_⟩⟩
  refine ⟨rfl, by rw [upd_ne (ne_of_none hc hpt)]; exact hc, ?_⟩
  refine ⟨_, _, fun cls d H1 z => ?_, fun v H1 z => ?_, h pt hpt⟩
  · obtain ⟨hcb, v, hfl, hrt⟩ := z
    obtain ⟨b1, e1, f1⟩ := hcb
    refine ⟨b1, e1, fun _ ax _ => ⟨rfl, v, hfl, .non, rfl, v, rfl, small_es (show 2 ≤ 1000 by decide), hrt⟩, fun h1 => ?_⟩
    obtain ⟨b2, e2, f2⟩ := f1 h1
    refine ⟨b2, e2, fun _ ax _ => ⟨rfl, v, hfl, .non, rfl, v, rfl, small_es (show 2 ≤ 1000 by decide), hrt⟩, fun h2 => ?_⟩
    obtain ⟨b3, e3, f3⟩ := f2 h2
    exact ⟨b3, e3, fun _ ax _ => ⟨rfl, v, hfl, .non, rfl, v, rfl, small_es (show 2 ≤ 1000 by decide), hrt⟩, fun h3 => (f3 h3).elim⟩
  · exact ⟨v, rfl, .str "", rfl, small_es (show 2 ≤ 1000 by decide), z⟩
end
/-! ### return ask(x)[1] -/
def TTwhy (K : PySem.W.Frag) (cl : List Value) (t : XK → Hp → VK → Prop) (E : XK) (H : Hp) (Q : VK) : Prop := TTask K cl t E H fun v H' => rIx K v (.int 1) H' Q
theorem tk_call {Z : Cx} {W : WX} {j i k : Nat} {TT : (XK → Hp → VK → Prop) → XK → Hp → VK → Prop} {a x : Str} {f c' g : Addr} {q : Str} {t : XK → Hp → VK → Prop} {p1 p2 p3 : Pos} (tko : TkOk Z.prog Z.w Z.K Z.mg Z.base j g TT) (th : Thunk Z.prog Z.w Z.K Z.mg Z.base k Z.fs Z.H_0 Z.s_0 f c' q t) (hex : Z.ex = []) (tk : Takes Z W) (hr : Room (k + j) Z.A)
    (hst : Z.stack = Z.env :: Z.outer) (hfr : Z.env.frame = some Z.env.locals)
    (hg : Gl Z x) (hm : Z.mg x = some (.ref g)) (hk : PySem.W.keepIn Z.K (.ref g) = true) (hN : Z.N[i]? = some a) (hv : Vis Z.env.scope a) (hd : (a == ("__debug__" : Str)) = false) (hcd : (a == ("__classdict__" : Str)) = false) (hdx : (x == ("__debug__" : Str)) = false)
    (he : starEach [.Name a p1] Z.env = [(false, eval (.Name a p1) Z.env)]) :
    PE Z (.Call (.Name x p2) [.Name a p1] [] p3) (fun σ H Q => σ[i]? = some (some (.ref f)) ∧ H c' = some (CodeO c' q) ∧ TT t (L2.WE W σ) H Q) := by
  refine ⟨fun pins s σ H Q I h => ?_⟩
  obtain ⟨hs, hc, ht⟩ := h
  refine wpAny_Call_Name_kw (ld_glob I hg hm ?_ hdx)
  refine PySem.W.callWith_K (h₀ := Z.base) I.ok.mod.kin hk (thn ((pa_cons (pe_var (pos := p1) (i := i) hN hv hd hcd) pa_nil he).run p3 pins s σ H (fun vs H1 => vs = [.ref f] ∧ H1 = H) I ⟨.ref f, hs, rfl, rfl⟩) fun us s1 ⟨vs, H1, I1, r1, q1⟩ => ⟨I1.kIn, ?_⟩) he (by rfl)
  obtain ⟨rfl, rfl⟩ := q1
  cases r1 with
  | @cons _ u _ us' r1 r2 =>
    cases r2
    obtain rfl : u = Value.ref f := r1
    have un : Un Z.fs [] Z.H_0 H1 Z.s_0.heap s1.heap := hex ▸ I1.base
    obtain ⟨o, fd, o1, o2, o3, o4, o5⟩ := th.obj
    have of1 := un.keep f _ o1 th.no th.nf (by simp)
    have nL : Z.s_0.heap.get? Z.env.locals = none := by
      cases e : Z.s_0.heap.get? Z.env.locals with
      | none => rfl
      | some o => exact absurd (Nat.lt_of_lt_of_le (Heap.lt_size e) I1.ok.above) (Nat.lt_irrefl _)
    have efr : frs Z.stack = Z.env.locals :: Z.fs := by
      rw [hst]
      show List.filterMap _ _ = _
      rw [List.filterMap_cons, hfr] <;> rfl
    have nfL : f ≠ Z.env.locals := fun z => by rw [← z, o1] at nL; cases nL
    have th2 : Thunk Z.prog Z.w Z.K Z.mg Z.base k (frs Z.stack) H1 s1 f c' q t := by
      refine ⟨⟨o, fd, of1, o2, o3, o4, o5⟩, un.free f _ o1 th.no (by simp), ?_, fun A outer s2 H2 Q E hr e0 un2 hc2 ht2 => th.run A outer s2 H2 Q E hr e0 ?_ hc2 ht2⟩
      · rw [efr]
        intro z
        rcases List.mem_cons.mp z with z | z
        · exact nfL z
        · exact th.nf z
      · rw [efr] at un2
        have u1 : Un (Z.env.locals :: Z.fs) [] Z.H_0 H1 Z.s_0.heap s1.heap := un.mono (fun b hb => List.mem_cons_of_mem _ hb) fun b hb => hb
        exact Un.less (u1.trans un2) nL
    have run := tko k Z.A Z.stack s1 H1 f c' q t Q (L2.WE W σ) hr I1.env0 th2 hc ht
    refine wpAny_call (codeAny_mono run fun r s' hq => ?_)
    cases r with
    | error e => exact passAt tk σ pins H1 s1 e s' I1 hq
    | ok fl => cases fl <;> first | exact I1.after hq | exact False.elim hq
theorem tk_why {P : Program} {w : World} {K : PySem.W.Frag} {mg : Str → Option Value} {base : Heap} {j : Nat} {cl : List Value} {x a y : Str} {params : Arguments} {scope : Scope} {g g2 : Addr} {fd : FuncData} {p1 p2 p3 p4 p5 p6 : Pos} {k1 : Nat} (tko : TkOk P w K mg base j g2 (TTask K cl))
    (F : FunD K x x params [.Return (some (.Subscript (.Call (.Name y p1) [.Name a p2] [] p3) (.Constant (.int 1) k1 p4) p5)) p6] scope [] [] g fd) (S : FnScope [a] [a] scope) (hb : Binds K fd [a] []) (l1 : scope.names.lookup a = some .local) (gy : scope.names.lookup y = some .globalImplicit) (my : mg y = some (.ref g2))
    (ky : PySem.W.keepIn K (.ref g2) = true) (hd : (a == ("__debug__" : Str)) = false) (hcd : (a == ("__classdict__" : Str)) = false) (hdy : (y == ("__debug__" : Str)) = false) : TkOk P w K mg base (j + 1) g (TTwhy K cl) := by
  refine tk_of F S hb fun k cdv A outer s H f c' q t Q E hr th hc h => ?_
  exact ⟨_, pss_one (ps_ret (pe_ix ix_seq (tk_call (Z := cxD P w K mg base [a] x scope g cdv A outer s H E) (W := fun cls d _ H => E cls d H) (i := 0) tko th rfl takesD hr rfl rfl gy my ky rfl (.inl l1) hd hcd hdy (by rfl)) pe_int (by intro _ _; rfl))), rfl, hc, h⟩
/-! ### lifted -/
/-- the exceptions of these names are caught, their text is read -/
def CatchOk (K : PySem.W.Frag) (cl : List Value) (L : List Str) : Prop := ∀ n ∈ L, CaughtBy K (.ref (He.ga K n)) cl ∧ XfC K (He.ga K n) ∧ PySem.W.findIn K (.ref (He.ga K n)) "called" = some none
def tAskD (L : List Str) (we : DL.WE) : DL.WE := fun ρ cs P Z => we ρ cs (fun d cs1 => P (.tup [d, .str ""]) cs1) (fun x cs1 => x.cls ∈ L ∧ ∃ y, x.fs.lookup ("called" : Str) = some y ∧ P (.tup [.non, y]) cs1)
def tWhyD (L : List Str) (we : DL.WE) : DL.WE := fun ρ cs P Z => we ρ cs (fun d cs1 => P (.str "") cs1) (fun x cs1 => x.cls ∈ L ∧ ∃ y, x.fs.lookup ("called" : Str) = some y ∧ P y cs1)
theorem td_ask {K : PySem.W.Frag} {cl : List Value} {L : List Str} (hL : CatchOk K cl L) : TkD K (TTask K cl) (tAskD L) := by
  intro σ E we H Q ⟨F, cs, ρ, P, Z, st, re, hw, pe, px⟩ p hp
  obtain ⟨s1, _⟩ := st.new (o := .tup [.non, .str ""]) hp
  have back : ∀ (H2 : Hp) (cs2 : Cs) (vs : List V) (ds : List D), Sta K F (pur F cs (upd H p (.tup [.non, .str ""]))) cs2 H2 → RepL K (pur F cs2 H2) vs ds → P (.tup ds) cs2 → retT K vs H2 Q := fun H2 cs2 vs ds s2 r2 h2 p2 hp2 => by
    obtain ⟨s3, e3⟩ := s2.new (o := .tup vs) hp2
    exact pe _ cs2 _ _ (s3.from_ (s1.gr.trans s2.gr)) (.tup (SqT.of e3) (r2.mono s3.gr)) h2
  refine ⟨F, cs, ρ, _, _, s1.self, re.mono s1.gr, hw, fun H2 cs2 v d s2 r2 h2 => back H2 cs2 _ _ s2 (.cons r2 (.cons (.str _) .nil)) h2, fun H2 cs2 x d s2 r2 h2 => ?_⟩
  obtain ⟨hx, y, hy, hp2⟩ := h2
  obtain ⟨h1, h3, h4⟩ := hL _ hx
  obtain ⟨dd, xs, rfl, e2, rx⟩ := r2
  obtain ⟨v, hv, rv⟩ := rx.get hy
  exact ⟨h1, v, ⟨_, dd, xs, rfl, h3, h4, rfl, pur_le _ _ e2, hv⟩, back H2 cs2 _ _ s2 (.cons .non (.cons rv .nil)) hp2⟩
theorem td_why {K : PySem.W.Frag} {cl : List Value} {L : List Str} (hL : CatchOk K cl L) : TkD K (TTwhy K cl) (tWhyD L) := by
  intro σ E we H Q ⟨F, cs, ρ, P, Z, st, re, hw, pe, px⟩
  refine td_ask hL σ E we H _ ⟨F, cs, ρ, (fun d cs2 => ∃ a b, d = .tup [a, b] ∧ P b cs2), Z, st, re, ?_, ?_, px⟩
  · have e1 : (fun d cs1 => P (.str "") cs1) = fun (d : D) (cs1 : Cs) => P (.str "") cs1 := rfl
    show we ρ cs (fun d cs1 => ∃ a b, D.tup [d, .str ""] = .tup [a, b] ∧ P b cs1) (fun x cs1 => x.cls ∈ L ∧ ∃ y, x.fs.lookup ("called" : Str) = some y ∧ ∃ a b, D.tup [.non, y] = .tup [a, b] ∧ P b cs1)
    have q1 : (fun d cs1 => ∃ a b, D.tup [d, .str ""] = .tup [a, b] ∧ P b cs1) = fun (d : D) (cs1 : Cs) => P (.str "") cs1 := by
      funext d cs1
      exact propext ⟨fun ⟨a, b, e, h⟩ => by cases e; exact h, fun h => ⟨_, _, rfl, h⟩⟩
    have q2 : (fun (x : Exn) cs1 => x.cls ∈ L ∧ ∃ y, x.fs.lookup ("called" : Str) = some y ∧ ∃ a b, D.tup [.non, y] = .tup [a, b] ∧ P b cs1) = fun (x : Exn) (cs1 : Cs) => x.cls ∈ L ∧ ∃ y, x.fs.lookup ("called" : Str) = some y ∧ P y cs1 := by
      funext x cs1
      exact propext ⟨fun ⟨h1, y, h2, a, b, e, h⟩ => by cases e; exact ⟨h1, _, h2, h⟩, fun ⟨h1, y, h2, h⟩ => ⟨h1, y, h2, _, _, rfl, h⟩⟩
    rw [q1, q2]
    exact hw
  · intro H2 cs2 v d s2 r2 ⟨a, b, ed, hp⟩
    subst ed
    cases r2 with
    | tup h r =>
      obtain ⟨u, hu, ru⟩ := r.atI (i := 1) (d := b) rfl
      exact .inr (.inl ⟨_, _, 1, u, rfl, rfl, ex_t pur_le h, hu, pe H2 cs2 u b s2 ru hp⟩)
/-! ### readings' steps -/
theorem r_lam {p : Addr} {q : Str} {T : DL.WE → DL.WE} {we : DL.WE} {ρ : DL.Env} {cs : Cs} {P : DP} {Z : XZ} (hl : look p cs = some (.tbl q)) (h : T we ρ cs P Z) : wLam p q T we ρ cs P Z := ⟨hl, h⟩
end DL

/-! DLTx: what the head tells of own exceptions and of tables; the end of a law that makes lambdas. -/
namespace DL
open PySem PySem.Spec PyProof.Rows L2 LamX ClX
/-! ### own exceptions -/
theorem oexB_ok {K : PySem.W.Frag} {C : Addr} (h : oexB K C = true) : OexC K C := by
  obtain ⟨h1, h⟩ := Bool.and_eq_true_iff.mp h
  obtain ⟨h2, h⟩ := Bool.and_eq_true_iff.mp h
  obtain ⟨h3, h⟩ := Bool.and_eq_true_iff.mp h
  obtain ⟨h4, h5⟩ := Bool.and_eq_true_iff.mp h
  refine ⟨?_, of_decide_eq_true h2, of_decide_eq_true h3, of_decide_eq_true h4, h5⟩
  split at h1
  · rename_i c dd cd sl hl
    obtain ⟨e1, h1⟩ := Bool.and_eq_true_iff.mp h1
    obtain ⟨e2, h1⟩ := Bool.and_eq_true_iff.mp h1
    obtain ⟨e3, h1⟩ := Bool.and_eq_true_iff.mp h1
    split at h1
    · rename_i C' bm a0 a1 a2 a3 n a5 em es
      obtain ⟨e4, h1⟩ := Bool.and_eq_true_iff.mp h1
      obtain ⟨e5, e6⟩ := Bool.and_eq_true_iff.mp h1
      have q1 := of_decide_eq_true e1
      have q4 := of_decide_eq_true e4
      have q5 := of_decide_eq_true e5
      subst q1 q4 q5
      obtain ⟨nm, bs, mro, ns, qn, hd, sn, sub, ab, col, del⟩ := cd
      dsimp only at em e2 e3
      have q3 : del = false := by cases del <;> first | rfl | cases e3
      subst em e2 q3
      have esl : sl = #[a0, a1, a2, a3, some (.builtin "ValueError.__new__"), a5] := by
        obtain ⟨l⟩ := sl
        simp only at es
        rw [es]
      subst esl
      exact ⟨nm, qn, ns, bs, bm, sn, sub, ab, col, dd, a0, a1, a2, a3, a5, hl, e6⟩
    · cases h1
  · cases h1
theorem xcB_ok {K : PySem.W.Frag} {C : Addr} (h : xcB K C = true) : XcC K C := by
  obtain ⟨h1, h⟩ := Bool.and_eq_true_iff.mp h
  obtain ⟨h2, h⟩ := Bool.and_eq_true_iff.mp h
  obtain ⟨h3, h⟩ := Bool.and_eq_true_iff.mp h
  obtain ⟨h4, h⟩ := Bool.and_eq_true_iff.mp h
  obtain ⟨h5, h6⟩ := Bool.and_eq_true_iff.mp h
  exact ⟨oexB_ok h1, xfB_ok h2, of_decide_eq_true h3, of_decide_eq_true h4, of_decide_eq_true h5, of_decide_eq_true h6⟩
/-- an own exception of the name n, its __init__ -/
structure XClass (K : PySem.W.Frag) (n : Str) : Prop where
  x : XcC K (He.ga K n)
  ini : PySem.W.findIn K (.ref (He.ga K n)) "__init__" = some (some (.ref (iniA K n)))
  ty : PySem.W.typeIn K (.ref (iniA K n)) = some (.type "function")
  rd : CRead K (He.ga K n) (.type "type")
  vl : CVal K (He.ga K n) (.type "type") "__init__" (.ref (iniA K n)) (.ref (iniA K n))
theorem cfB_ok {K : PySem.W.Frag} {C : Addr} {m : Str} {u : Value} (h : cfB K C m u = true) : PySem.W.findCls K (.ref C) (.type "type") m = some (.val u) := by
  unfold cfB at h
  split at h
  · rename_i v e
    rw [e, of_decide_eq_true h]
  · cases h
theorem xclassB_ok {K : PySem.W.Frag} {n : Str} (h : xclassB K n = true) : XClass K n := by
  obtain ⟨h1, h⟩ := Bool.and_eq_true_iff.mp h
  obtain ⟨h2, h⟩ := Bool.and_eq_true_iff.mp h
  obtain ⟨h3, h⟩ := Bool.and_eq_true_iff.mp h
  obtain ⟨h4, h⟩ := Bool.and_eq_true_iff.mp h
  obtain ⟨h5, h6⟩ := Bool.and_eq_true_iff.mp h
  exact ⟨xcB_ok h1, of_decide_eq_true h2, of_decide_eq_true h3, ⟨h4, of_decide_eq_true h5⟩, ⟨cfB_ok h6, rfl⟩⟩
theorem caughtB_ok {K : PySem.W.Frag} {n : Str} : ∀ {cl : List Str}, caughtB K n cl = true → CaughtBy K (.ref (He.ga K n)) (cl.map fun c => .ref (He.ga K c))
  | [], h => by cases h
  | c :: r, h => by
    unfold caughtB at h
    split at h
    · rename_i e
      exact ⟨true, e, fun z => by cases z⟩
    · rename_i e
      exact ⟨false, e, fun _ => caughtB_ok h⟩
    · cases h
theorem catch_ok {K : PySem.W.Frag} {cl L : List Str} (h : (L.all fun n => caughtB K n cl && (xfB K (He.ga K n) && noAt K (He.ga K n) "called")) = true) : CatchOk K (cl.map fun c => .ref (He.ga K c)) L := fun n hn => by
  obtain ⟨h1, h2⟩ := Bool.and_eq_true_iff.mp (List.all_eq_true.mp h n hn)
  obtain ⟨h3, h4⟩ := Bool.and_eq_true_iff.mp h2
  exact ⟨caughtB_ok h1, xfB_ok h3, of_decide_eq_true h4⟩
/-! ### __init__ of an own exception as a def -/
def exn (n : Str) : Exn := ⟨n, [("called", .str n)]⟩
def g0V (n : Str) : List V → List (Str × V) := fun _ => [("called", .str n)]
def g0 (n : Str) : List D → List (Str × D) := fun _ => [("called", .str n)]
theorem fld0 {K : PySem.W.Frag} {n : Str} : FldOk K (g0V n) (g0 n) := fun G vs ds r => .cons rfl (.str _) .nil
theorem r_raise {n : Str} {f : Fin} {ρ : DL.Env} {cs : Cs} (h : f.ex (exn n) ρ cs) : sRaise n (fun ds => g0 n (ds ++ [])) wNil f ρ cs := h
/-! ### a def that makes lambdas: its code object is told -/
theorem ok_defC {P : Program} {w : World} {K : PySem.W.Frag} {mg : Str → Option Value} {base : Heap} {x qual : Str} {params : Arguments} {body : List Stmt} {scope : Scope} {dvs : List V} {kws : List (Str × V)} {f c : Addr} {fd : FuncData} {N ps : List Str} {k : Nat} {sp : DSp} (F : FunD K x qual params body scope dvs kws f fd) (hcd : fd.code = .ref c) (S : FnScope N ps scope) {u : DL.WS}
    (hb : ∀ (A : Around) (outer : List PySem.Env) (s : Shared) (H : Hp) (E : XK), Room k (A.deeper (envOfC qual scope s.heap.objs.size f (.ref c))) → DSs (cxD P w K mg base N qual scope f (.ref c) A outer s H E) (fun cls d _ H => E cls d H) body u)
    (hsp : ∀ ds cs Q Z, sp ds cs Q Z → ds.length = ps.length → u (finD Q Z) (startD N ds) cs) : FnOk P w K mg base (L2.CX P w) (k + 1) f fd ps (spL K ps.length sp) := by
  obtain ⟨oc, od, dV, kV, doc, pm, an, cdv, ct, osl, rfl, lk, hc2, h4, h5⟩ := F.ex
  have e : cdv = .ref c := hcd
  subst e
  refine fn_of lk hc2 S spL_len fun A outer s H vs Q E hr h => ?_
  obtain ⟨F0, cs, ds, Pd, Z, st, r, l, hs, pe, px⟩ := h
  refine ⟨_, hb A outer s H E hr, F0, cs, startD N ds, finD Pd Z, st, ?_, hsp ds cs Pd Z hs l, ⟨fun H' cs' σ' ρ' s' _ h' => pe H' cs' .non .non s' .non h', fun _ _ _ _ _ _ h => h.elim, fun _ _ _ _ _ _ h => h.elim, pe, fun H' cs' σ' ρ' x d s' _ r' h' => px H' cs' x d s' r' h'⟩⟩
  unfold startD L2.start
  rw [r.length]
  exact RepE.start _ r
theorem takesL {X : Cx} {A : Around} {outer : List PySem.Env} {s : Shared} {H : Hp} {E : XK} {scope : Scope} {f c' : Addr} : Takes (lamCx X A outer s H E scope f c') (fun cls d _ H => E cls d H) := takes_of rfl rfl rfl rfl
/-! ### the end -/
abbrev tabA (K : PySem.W.Frag) (n : Str) : Addr := (He.cT K (n, none)).2
def sp_lawT (tb : Cs) : DSp := fun ds cs P _ => ∃ ns : List Int, ds = [.lst (ns.map D.int)] ∧ ns.length ≤ 63 ∧ cs = tb ∧ ∀ cs', P (.bl true) cs'
def tbls (ts : List (Addr × Str)) : Cs := ts.map fun p => (p.1, .tbl p.2)
theorem law_startT {K : PySem.W.Frag} {H : Hp} {a : Addr} {ns : List Int} {ts : List (Addr × Str)} (nd : (ts.map (·.1)).Nodup) (hT : ∀ p ∈ ts, H p.1 = some (.tbl #[])) (hl : ns.length ≤ 63) (hS : SqL K H a (ns.map V.int)) :
    (fun (vs : List V) (H : Hp) (Q : VK) (_ : XK) => spL K 1 (sp_lawT (tbls ts)) vs H Q fun _ _ _ => False) [.ref a] H (fun v _ => v = .bl true) (fun _ _ _ => False) := by
  have ea : adr (tbls ts) = ts.map (·.1) := by unfold adr tbls; rw [List.map_map]; rfl
  refine ⟨fun _ => none, tbls ts, [.lst (ns.map D.int)], fun d _ => d = .bl true, fun _ _ => False, ⟨fun _ _ h => (nomatch h), Ex.refl _, ea ▸ nd, fun _ _ => rfl, fun b m hm => ?_, fun _ _ h => (nomatch h)⟩, ?_, rfl, ⟨ns, rfl, hl, rfl, fun _ => rfl⟩, ?_, fun _ _ _ _ _ _ h => h⟩
  · obtain ⟨p, hp, e⟩ := List.mem_map.mp hm
    cases e
    refine ⟨_, hT p hp, ⟨True.intro, fun pos cv hc => ?_⟩⟩
    have z : codeAmong pos [] = some cv := hc
    simp [codeAmong] at z
  · have hna : ∀ u : HO, (∀ ps, u ≠ .tbl ps) → H a = some u → pur (fun _ => none) (tbls ts) H a = some u := fun u hu e => by
      rw [pur_at rfl, e]
      rw [ea]
      intro z
      obtain ⟨p, hp, e2⟩ := List.mem_map.mp z
      have e3 : p.1 = a := e2
      rw [← e3, hT p hp] at e
      exact hu _ (Option.some.inj e).symm
    refine .cons (.lst ?_ (RepL.ofInts ns)) .nil
    rcases hS with (h | ⟨o, h⟩) | h
    · exact .inl (.inl (hna _ (fun ps z => by cases z) h))
    · exact .inl (.inr ⟨o, hna _ (fun ps z => by cases z) h⟩)
    · exact .inr h
  · intro H' cs' v d s r e
    subst e
    cases r
    rfl
end DL
namespace DL
open PySem PySem.Spec PyProof.Rows L2 LamX
theorem code_of {K : PySem.W.Frag} {n : Str} {x qual : Str} {params : Arguments} {body : List Stmt} {scope : Scope} {dvs : List V} {kws : List (Str × V)} {fd : FuncData} (F : FunD K x qual params body scope dvs kws (He.ga K n) fd) : fd.code = .ref (He.cT K (n, none)).1 := by
  obtain ⟨oc, od, dV, kV, doc, pm, an, cdv, ct, osl, rfl, lk, hc2, h4, h5⟩ := F.ex
  obtain ⟨c, rfl⟩ := He.codeIn_ref hc2
  have e := He.codeOf_eq (p := (n, none)) lk rfl
  show Value.ref c = _
  exact congrArg Value.ref e.symm
theorem fd_same {K : PySem.W.Frag} {f : Addr} {x x' qual qual' : Str} {params params' : Arguments} {body body' : List Stmt} {scope scope' : Scope} {dvs dvs' : List V} {kws kws' : List (Str × V)} {fd fd' : FuncData} (F : FunD K x qual params body scope dvs kws f fd) (F' : FunD K x' qual' params' body' scope' dvs' kws' f fd') : fd = fd' := by
  obtain ⟨_, _, _, _, _, _, _, _, _, _, _, lk, _⟩ := F.ex
  obtain ⟨_, _, _, _, _, _, _, _, _, _, _, lk', _⟩ := F'.ex
  rw [lk] at lk'
  injection lk' with e
  injection e with _ _ e
  injection e
end DL
namespace DL
open PySem PySem.Spec PyProof.Rows L2
theorem look_ne {p q : Addr} {cs : Cs} {m : MO} (h : look q cs = some m) (hp : p ∉ adr cs) : q ≠ p := fun e => hp (by
  subst e
  exact List.mem_map.mpr ⟨_, look_mem h, rfl⟩)
theorem look_cons_ne {p q : Addr} {cs : Cs} {b : MO} (h : q ≠ p) : look q ((p, b) :: cs) = look q cs := by
  show (if p = q then some b else look q cs) = look q cs
  rw [if_neg (fun z => h z.symm)]
theorem r_eqSs {cs : Cs} {P : DP} {x : Str} (h : P (.bl true) cs) : oEq (.str x) (.str x) cs P := ⟨rfl, rfl, by rw [show eqD (.str x) (.str x) = true from by simp [eqD]]; exact h⟩
theorem r_neSs {cs : Cs} {P : DP} {x : Str} (h : P (.bl false) cs) : oNe (.str x) (.str x) cs P := ⟨rfl, rfl, by rw [show eqD (.str x) (.str x) = true from by simp [eqD]]; exact h⟩
theorem tb_step {p q : Addr} {c c' : Cs} {m : MO} (a : BagStep p c c') (h : q ≠ p) (e : look q c = some m) : look q c' = some m := (a.look h).trans e
theorem tb_cons {p q : Addr} {c : Cs} {b m : MO} (h : q ≠ p) (e : look q c = some m) : look q ((p, b) :: c) = some m := (look_cons_ne h).trans e
theorem tb_put {p q : Addr} {c : Cs} {b m : MO} (h : q ≠ p) (e : look q c = some m) : look q (put p b c) = some m := (look_put_ne h).trans e
section
variable {L : List Str} {we : DL.WE} {ρ : DL.Env} {cs : Cs} {P : DP} {Z : XZ}
theorem r_ask (h : we ρ cs (fun d cs1 => P (.tup [d, .str ""]) cs1) (fun x cs1 => x.cls ∈ L ∧ ∃ y, x.fs.lookup ("called" : Str) = some y ∧ P (.tup [.non, y]) cs1)) : tAskD L we ρ cs P Z := h
theorem r_why (h : we ρ cs (fun d cs1 => P (.str "") cs1) (fun x cs1 => x.cls ∈ L ∧ ∃ y, x.fs.lookup ("called" : Str) = some y ∧ P y cs1)) : tWhyD L we ρ cs P Z := h
/-- caught by ask: its text is told -/
theorem x_ask {n : Str} (hn : n ∈ L) (h : P (.tup [.non, .str n]) cs) : (fun (x : Exn) cs1 => x.cls ∈ L ∧ ∃ y, x.fs.lookup ("called" : Str) = some y ∧ P (.tup [.non, y]) cs1) (exn n) cs := ⟨hn, _, rfl, h⟩
theorem x_why {n : Str} (hn : n ∈ L) (h : P (.str n) cs) : (fun (x : Exn) cs1 => x.cls ∈ L ∧ ∃ y, x.fs.lookup ("called" : Str) = some y ∧ P y cs1) (exn n) cs := ⟨hn, _, rfl, h⟩
end
end DL

/-! DLLd: lambdas with defaults (lambda a=0: ..), handed to a def that calls them without arguments. -/
namespace DL
open PySem PySem.Spec PyProof.Rows L2 LamX
/-- the names of such a lambda: N are the maker's; its own ones are others -/
structure LamT (N : List Str) (sc scope : Scope) : Prop where
  kind : scope.kind = .function
  co : scope.isCoroutine = false
  gen : scope.isGenerator = false
  own : ∀ y ∈ scope.names, y.2 ≠ .cell ∧ (y.2 = .local → y.1 ∉ N)
  free : ∀ y ∈ scope.names, y.2 = .free → sc.names.lookup y.1 = some .cell ∨ sc.names.lookup y.1 = some .free
def lamTB (N : List Str) (sc scope : Scope) : Bool := decide (scope.kind = .function) && (!scope.isCoroutine && (!scope.isGenerator && scope.names.all fun y =>
  !decide (y.2 = .cell) && ((!decide (y.2 = .local) || !N.contains y.1) && (!decide (y.2 = .free) || (decide (sc.names.lookup y.1 = some .cell) || decide (sc.names.lookup y.1 = some .free))))))
theorem lamT_by {N : List Str} {sc scope : Scope} (h : lamTB N sc scope = true) : LamT N sc scope := by
  unfold lamTB at h
  simp only [Bool.and_eq_true, Bool.or_eq_true, Bool.not_eq_true', decide_eq_true_eq, decide_eq_false_iff_not, List.all_eq_true] at h
  obtain ⟨a1, a2, a3, a4⟩ := h
  refine ⟨a1, a2, a3, fun y hy => ⟨(a4 y hy).1, fun e hm => ?_⟩, fun y hy e => ?_⟩
  · rcases (a4 y hy).2.1 with z | z
    · exact z e
    · have : N.contains y.1 = true := by simpa using hm
      rw [this] at z; cases z
  · rcases (a4 y hy).2.2 with z | z
    · exact absurd e z
    · exact z
/-- the object of such a lambda, its defaults at T -/
abbrev lamOD (X : Cx) (params : Arguments) (body : Expr) (scope : Scope) (T : Addr) (doc pm ctv : Value) (c' : Addr) : Obj :=
  PySem.W.kdv_obj "<lambda>" (X.env.qual ++ "<lambda>") params (.expr body) scope (cloFrom X.env.cells scope.names []) (.ref T) doc pm c' ctv
section
variable {X : Cx} {pins : List (Addr × Obj)} {σ : L2.St} {H : Hp} {s : Shared}
theorem lam_makeD {c P : Addr} {ps : Array Value} {params : Arguments} {body : Expr} {scope : Scope} {pos : Pos} {Q : Value → Shared → Prop} {i0 : Int} {j0 : Nat} {p0 : Pos} (I : Inv X pins σ H s) (TB : TabB X.base X.mg c P) (hcode : X.env.code = .ref c)
    (hP : H P = some (.tbl ps)) (hT : TabT H ps (X.env.qual ++ "<lambda>")) (hdf : params.defaults = [.Constant (.int i0) j0 p0]) (hkd : params.kw_defaults = []) (hfree : ∀ y ∈ scope.names, y.2 = .free → ∃ c, X.env.cells.lookup y.1 = some c)
    (h : ∀ (f c' T : Addr) (dv doc pm ctv : Value) (H1 : Hp) (s' : Shared), Inv X pins σ H1 s' → LamH H P c' (X.env.qual ++ "<lambda>") ps H1 → s'.heap.get? f = some (lamOD X params body scope T doc pm ctv c') → H1 f = none → f ∉ frs X.stack →
      s'.heap.get? T = some (PySem.W.kdv_tup [dv]) → H1 T = none → T ∉ frs X.stack → Q (.ref f) s') :
    wpAny (model X.prog X.w) X.A (eval (.Lambda params body scope pos) X.env) Q X.xe s := by
  obtain ⟨tOk, tIn⟩ := hT
  refine PySem.W.kdv_lam (by rw [hdf] <;> rfl) hkd ?_
  rw [hdf]
  refine PySem.W.kdv_all1 (wpAny_mono ((pe_int (X := X) (i := i0)).run pins s σ H (fun v H1 => v = .int i0 ∧ H1 = H) I ⟨rfl, rfl⟩) (fun dv s1 hh => ?_) fun e s1 z => ?_)
  · obtain ⟨v, H1, I1, rv, ev, eH⟩ := hh
    subst ev
    rw [eH] at I1
    refine PySem.W.kdv_all0 ?_
    rw [makeFunction_eq]
    simp only [List.zip_nil_right, List.filterMap_nil, List.isEmpty_nil, List.isEmpty_cons, Bool.false_eq_true, if_true, if_false, pure_bind]
    refine wpAny_bind (wpAny_newTextTuple ?_)
    obtain ⟨T, eT⟩ : ∃ T, T = s1.heap.objs.size := ⟨_, rfl⟩
    rw [← eT]
    have kp : ∀ b o, s1.heap.get? b = some o → (s1.heap.push (PySem.W.kdv_tup [dv])).get? b = some o := fun b o e => Heap.get?_push_of_some _ e
    have I2 : Inv X pins σ H { s1 with heap := s1.heap.push (PySem.W.kdv_tup [dv]) } := I1.kept (t' := s1.toks) kp
    have oT : (s1.heap.push (PySem.W.kdv_tup [dv])).get? T = some (PySem.W.kdv_tup [dv]) := by rw [eT]; exact Heap.get?_push_size _ rfl
    have nT : H T = none := by rw [eT]; exact I1.hok.fresh (Nat.le_refl _)
    have far : ∀ (s2 : Shared) (_ : Inv X pins σ H s2) (b : Addr), s2.heap.objs.size ≤ b → b ∉ frs X.stack := fun s2 J b le z => by
      rcases List.mem_cons.mp (J.stkSub _ z) with e | e
      · exact Nat.lt_irrefl _ (Nat.lt_of_lt_of_le (e ▸ J.lt) le)
      · exact J.nofs le e
    have fT : T ∉ frs X.stack := by rw [eT]; exact far s1 I1 _ (Nat.le_refl _)
    generalize hs2 : ({ s1 with heap := s1.heap.push (PySem.W.kdv_tup [dv]) } : Shared) = s2 at I2
    have oT2 : s2.heap.get? T = some (PySem.W.kdv_tup [dv]) := by rw [← hs2]; exact oT
    have kB : s2.heap.BuiltinsAt X.mg P := TB.bm.keeps I2.bk
    have kC := TB.code.keeps I2.bk
    have kG := I2.mod.glob.keeps I2.bk
    have obP : s2.heap.get? P = some { cls := .none, data := .fields ps } := I2.hok P _ hP
    have nTP : T ≠ P := fun z => by rw [z, hP] at nT; cases nT
    rcases hc : codeAmong pos ps.toList with _ | cv
    · apply PySem.W.kdv_makeTail (mg := X.mg) (c := c) (P := P) (ps := ps) (closure_ok hfree) I2.ok.glob kG hcode kC obP tOk hc TB.gP kB
      intro c' ctv doc h' tk ext cge clt crec tab
      obtain ⟨c2, oc, fvs, t, e2, hoc, hd, hv⟩ := crec
      cases e2
      have nc : H c' = none := I2.hok.fresh cge
      have le : s2.heap.objs.size ≤ h'.objs.size := Nat.le_trans cge (Nat.le_of_lt clt)
      have J := inv_table (t' := tk) (q := X.env.qual ++ "<lambda>") (more := #[rawInt pos.line, rawInt pos.col, .ref c']) (h' := h'.push (lamOD X params body scope T doc ((X.mg "__name__").getD .none) ctv c')) I2 hP
        (fun b o hb e => Heap.get?_push_of_some _ (ext b o hb e)) (Heap.get?_push_of_some _ tab) cge ⟨oc, fvs, t, Heap.get?_push_of_some _ hoc, hd, hv⟩
      have eL : (ps ++ #[rawInt pos.line, rawInt pos.col, .ref c']).toList = ps.toList ++ [rawInt pos.line, rawInt pos.col, .ref c'] := by simp
      have up : ∀ b, b ≠ c' → b ≠ P → H b = none → upd (upd H P (.tbl (ps ++ #[rawInt pos.line, rawInt pos.col, .ref c']))) c' (CodeO c' (X.env.qual ++ "<lambda>")) b = none := fun b h1 h2 h3 => by rw [upd_ne h1, upd_ne h2]; exact h3
      refine h h'.objs.size c' T dv doc _ ctv _ _ J (.new nc ?_ fun p' cv z => ?_) (Heap.get?_push_size _ rfl) (up _ (Nat.ne_of_gt clt) (Nat.ne_of_gt (Nat.lt_of_lt_of_le (Heap.lt_size obP) le)) (I2.hok.fresh le)) (far s2 I2 _ le)
        (Heap.get?_push_of_some _ (ext T _ nTP oT2)) (up _ (Nat.ne_of_lt (Nat.lt_of_lt_of_le (Heap.lt_size oT2) cge)) nTP nT) fT
      · rw [eL]; exact PySem.TriplesOk_snoc _ _ _ _ tOk
      · rw [eL] at z; exact among_app _ tOk z
    · obtain ⟨c', rfl, hco⟩ := tIn pos cv hc
      apply PySem.W.kdv_makeTailHit (mg := X.mg) (c := c) (P := P) (ps := ps) (closure_ok hfree) I2.ok.glob kG hcode kC obP tOk hc kB
      intro ctv doc h' tk ext le
      exact h h'.objs.size c' T dv doc _ ctv H _ (I2.kept (t' := tk) fun b o e => Heap.get?_push_of_some _ (ext b o e)) (.hit hco) (Heap.get?_push_size _ rfl) (I2.hok.fresh le) (far s2 I2 _ le)
        (Heap.get?_push_of_some _ (ext _ _ oT2)) nT fT
  · exact z
end
theorem LamT.has {X : Cx} {scope : Scope} (L : LamT X.N X.env.scope scope) (ok : X.Ok) : ∀ y ∈ scope.names, y.2 = .free → ∃ c, X.env.cells.lookup y.1 = some c := fun y hy e =>
  (L.free y hy e).elim (fun k => ok.has _ (.inl k)) fun k => ok.has _ (.inr k)
section
variable {X : Cx} {pins : List (Addr × Obj)} {σ : L2.St} {H HZ : Hp} {s s1 : Shared}
/-- the lambda's body begins: binds are its own names -/
theorem lam_startD {A : Around} {outer : List PySem.Env} {E : XK} {scope : Scope} {f c' : Addr} {h1 : Heap} {tk : Nat} {mo : Str → Option Value} (I : Inv X pins σ H s) (L : LamT X.N X.env.scope scope) (e0 : Env0 X.prog X.w X.K X.mg X.base A outer s1 HZ) (hd : A.handled = none)
    (un : Un (frs X.stack) [] H HZ s.heap s1.heap) (hns : h1.Ns s1.heap.objs.size mo) (kp : ∀ b o, s1.heap.get? b = some o → h1.get? b = some o) :
    Inv (lamCx X A outer s1 HZ E scope f c') [] σ HZ { s1 with heap := h1, toks := tk } := by
  have free' := L.has I.ok
  have down : ∀ {y c}, (cloFrom X.env.cells scope.names []).lookup y = some c → X.env.cells.lookup y = some c := by
    intro y c e
    rcases cloFrom_mem (PySem.mem_of_lookup e) with hm | ⟨a1, a2⟩
    · cases hm
    · obtain ⟨c1, hc⟩ := free' _ a1 rfl
      have hc1 : X.env.cells.lookup y = some c1 := hc
      rw [show c = c1 by rw [a2, hc1] <;> rfl]
      exact hc1
  have up : ∀ {y}, scope.names.lookup y = some .free → ∃ c, (cloFrom X.env.cells scope.names []).lookup y = some c := fun {y} hl =>
    mem_lookup (cloFrom_has (cells := X.env.cells) (acc := []) (show (y, NameKind.free) ∈ scope.names from PySem.mem_of_lookup hl))
  have cellK : ∀ {c : Addr} {v : Option Value}, H c = none → s.heap.IsCell c v → h1.IsCell c v := fun {c v} n ⟨o, ho, hdt⟩ => by
    obtain ⟨sl, q⟩ := un.any ho n (by simp)
    exact ⟨_, kp _ _ q, hdt⟩
  have none_ : ∀ {b : Addr} {T : Prop}, b ∈ (lamCx X A outer s1 HZ E scope f c').ex → T := fun {b T} z => absurd (show b ∈ ([] : List Addr) from z) (by simp)
  refine ⟨⟨e0.mod, L.kind, rfl, rfl, Nat.le_refl _, fun y z c a1 a2 => I.ok.inj y z c (down a1) (down a2), fun y hy => ?_, fun y c z _ => ?_, fun _ => hd, Around.frames_deeper e0.frames, .inr ⟨rfl, rfl⟩, fun b z => none_ z, e0.bs, e0.bsz, fun b _ _ z => none_ z, fun b z => none_ z, e0.funs, e0.frf⟩,
    rfl, e0.bare, Un.kept kp, ⟨_, hns, fun i y v a1 a2 a3 => ?_⟩, fun y c e => ?_, e0.hok.fresh (Nat.le_refl _), fun y c e => ?_, fun q hq => absurd (show q ∈ ([] : List (Addr × Obj)) ++ [] from hq) (by simp), e0.hok.kept kp, I.len⟩
  · have hy2 : scope.names.lookup y = some .cell ∨ scope.names.lookup y = some .free := hy
    rcases hy2 with q | q
    · exact absurd rfl (L.own _ (PySem.mem_of_lookup q)).1
    · exact up q
  · exact absurd (show (false : Bool) = true from z) (by simp)
  · have a4 : Vis scope y := a3
    rcases a4 with k | k | k
    · exact absurd (List.mem_of_getElem? a1) ((L.own _ (PySem.mem_of_lookup k)).2 rfl)
    · exact absurd rfl (L.own _ (PySem.mem_of_lookup k)).1
    · obtain ⟨m, hn, hl⟩ := I.loc
      have vis : Vis X.env.scope y := .inr ((L.free _ (PySem.mem_of_lookup k) rfl).elim .inl .inr)
      obtain ⟨w', r, q⟩ := hl i y v a1 a2 vis
      obtain ⟨c2, h2⟩ := up k
      have c1 := down h2
      refine ⟨w', r, .inr ⟨.inr k, c2, h2, ?_⟩⟩
      rcases q with ⟨k', _⟩ | ⟨_, c3, e', z⟩
      · have k2 : X.env.scope.names.lookup y = some .local := k'
        rcases L.free _ (PySem.mem_of_lookup k) rfl with k3 | k3 <;> rw [show X.env.scope.names.lookup y = _ from k3] at k2 <;> cases k2
      · rw [c1] at e'
        cases e'
        exact cellK (I.freeC y _ c1) z
  · obtain ⟨w', z⟩ := I.cell y c (down e)
    exact ⟨w', cellK (I.freeC y c (down e)) z⟩
  · obtain ⟨v, o, ho, hdt⟩ := I.cell y c (down e)
    exact un.free c o ho (I.freeC y c (down e)) (by simp)
end
theorem lam_thunkD {X : Cx} {pins : List (Addr × Obj)} {σ : L2.St} {H : Hp} {s : Shared} {f c' T : Addr} {a : Str} {dv doc pm ctv : Value} {params : Arguments} {body : Expr} {scope : Scope} {k : Nat} {t : XK → TE} (I : Inv X pins σ H s) (L : LamT X.N X.env.scope scope)
    (hf : s.heap.get? f = some (lamOD X params body scope T doc pm ctv c')) (hfn : H f = none) (hfr : f ∉ frs X.stack) (hT : s.heap.get? T = some (PySem.W.kdv_tup [dv])) (hTn : H T = none) (hTr : T ∉ frs X.stack) (hl : scope.names.lookup a = some .local)
    (hbind : ∀ (q : Str) (cl : List (Str × Addr)) (T : Addr) (doc pm cv ctv dv : Value), ∃ k, bindArgs (PySem.W.kdv_fn "<lambda>" q params (.expr body) scope cl (.ref T) doc pm cv ctv) ⟨[], []⟩ = seqItems? (.ref T) >>= k ∧ k (some #[dv]) = pure [(a, dv)])
    (hbody : ∀ (A : Around) (outer : List PySem.Env) (s : Shared) (H : Hp) (E : XK), Room k (A.deeper (lamEnv X scope s.heap.objs.size f c')) → PE (lamCx X A outer s H E scope f c') body (t E)) :
    Thunk X.prog X.w X.K X.mg X.base (k + 1) (frs X.stack) H s f c' (X.env.qual ++ "<lambda>") (fun E H Q => t E σ H Q) := by
  refine ⟨⟨_, _, hf, rfl, rfl, rfl, rfl⟩, hfn, hfr, fun A outer s1 H1 Q E hr e0 un hc ht => ?_⟩
  have of1 := un.keep f _ hf hfn hfr (by simp)
  have oT1 := un.keep T _ hT hTn hTr (by simp)
  obtain ⟨⟨oc, fvs, tx, hoc, hdc, hvc⟩, _, _⟩ := e0.hok c' _ hc
  have lim : s1.heap.NoLimit := e0.mod.nolimit.keeps fun b o e => (e0.bs b o e).1
  obtain ⟨kb, b1, b2⟩ := hbind (X.env.qual ++ "<lambda>") (cloFrom X.env.cells scope.names []) T doc pm (.ref c') ctv dv
  have B : BindsTo s1 (PySem.W.kdv_fn "<lambda>" (X.env.qual ++ "<lambda>") params (.expr body) scope (cloFrom X.env.cells scope.names []) (.ref T) doc pm (.ref c') ctv) ⟨[], []⟩ [(a, dv)] := BindsTo.of_defaults rfl oT1 rfl b1 b2
  refine PySem.W.kla_callFunE hr.depth of1 rfl L.co L.gen rfl ⟨c', oc, fvs, tx, rfl, hoc, hdc, hvc⟩ (B _ _ _ _ ?_)
  refine wpAny_newFunctionEnv (fun y hy => (L.own y hy).1) (fun y hy => by rw [List.mem_singleton.mp hy]; exact hl) (fun h1 hns hsb => ⟨lim.fresh _ hsb, ?_⟩) L.kind
  have kp : ∀ b o, s1.heap.get? b = some o → h1.get? b = some o := fun b o e => hsb.extBut b o (Nat.ne_of_lt (Heap.lt_size e)) (Heap.get?_push_of_some _ e)
  have J := lam_startD (E := E) (f := f) (c' := c') (tk := s1.toks + [(a, dv)].length) I L e0 hr.hd un hns kp
  refine PySem.W.kla_codeExpr (wpAny_mono ((hbody _ _ s1 H1 E (hr.deeper _)).run [] _ _ H1 Q J ht) (fun v s' hq => ?_) fun e s' hq => hq)
  obtain ⟨w', H', J', rv, q⟩ := hq
  exact ⟨w', H', J'.os, J'.bare, J'.base, J'.hok, rv, q⟩
section
variable {X : Cx} {W : WX}
theorem d_lamD {j k : Nat} {TT : (XK → Hp → VK → Prop) → XK → Hp → VK → Prop} {T : DL.WE → DL.WE} {we : DL.WE} {g c pt : Addr} {q x a : Str} {params : Arguments} {body : Expr} {scope : Scope} {p lpos pos : Pos} {i0 : Int} {j0 : Nat} {p0 : Pos} (tko : TkOk X.prog X.w X.K X.mg X.base j g TT) (td : TkD X.K TT T) (tk : Takes X W) (hr : Room (k + 1 + j) X.A)
    (hg : Gl X x) (hm : X.mg x = some (.ref g)) (hk : PySem.W.keepIn X.K (.ref g) = true) (TB : TabB X.base X.mg c pt) (hcode : X.env.code = .ref c) (L : LamT X.N X.env.scope scope) (hla : scope.names.lookup a = some .local)
    (hbody : ∀ (A : Around) (outer : List PySem.Env) (s : Shared) (H : Hp) (E : XK) (f c' : Addr), Room k (A.deeper (lamEnv X scope s.heap.objs.size f c')) → DE (lamCx X A outer s H E scope f c') (fun cls d _ H => E cls d H) body we)
    (hq : X.env.qual ++ "<lambda>" = q := by rfl) (hdf : params.defaults = [.Constant (.int i0) j0 p0] := by rfl) (hkd : params.kw_defaults = [] := by rfl)
    (hbind : ∀ (q : Str) (cl : List (Str × Addr)) (T : Addr) (doc pm cv ctv dv : Value), ∃ k, bindArgs (PySem.W.kdv_fn "<lambda>" q params (.expr body) scope cl (.ref T) doc pm cv ctv) ⟨[], []⟩ = seqItems? (.ref T) >>= k ∧ k (some #[dv]) = pure [(a, dv)] := by intros; exact ⟨_, rfl, rfl⟩) (hdb : (x == ("__debug__" : Str)) = false := by decide) :
    DE X W (.Call (.Name x p) [.Lambda params body scope lpos] [] pos) (wLam pt q T we) := by
  refine ⟨fun pins s σ H Q I h => ?_⟩
  obtain ⟨F, cs, ρ, P, Z, st, re, ⟨hl, hw⟩, pe, px⟩ := h
  obtain ⟨ps, ht, tt⟩ := tbl_at st hl
  refine wpAny_Call_Name_kw (ld_glob I hg hm ?_ hdb)
  refine PySem.W.callWith_K (h₀ := X.base) I.ok.mod.kin hk ?_ (by rfl) (by rfl)
  show wpAny _ _ (spliced ((false, eval (.Lambda params body scope lpos) X.env) :: backTo pos (starEach [] X.env))) _ _ s
  refine Calls.spliced_cons (lam_makeD I TB hcode ht (hq ▸ tt.le pur_le) hdf hkd (L.has I.ok) fun f c' T' dv doc pm ctv H1 s' I1 lh hf hfn hfr hT hTn hTr => Calls.spliced_nil ⟨I1.kIn, ?_⟩)
  rw [hq] at lh
  obtain ⟨s1, hc⟩ := sta_lam st hl ht tt lh
  have th := lam_thunkD (k := k) (t := fun E => lE X.K (fun cls d _ H => E cls d H) we) I1 L hf hfn hfr hT hTn hTr hla hbind fun A outer s0 H0 E hr' => hbody A outer s0 H0 E f c' hr'
  have run := tko (k + 1) X.A X.stack s' H1 f c' (X.env.qual ++ "<lambda>") _ Q (L2.WE W σ) hr I1.env0 th (hq ▸ hc) (td σ (L2.WE W σ) we H1 Q ⟨F, cs, ρ, P, Z, s1.self, re.mono s1.gr, hw, pe.le s1.gr, px.le s1.gr⟩)
  refine wpAny_call (codeAny_mono run fun r s2 hq2 => ?_)
  cases r with
  | error e => exact passAt tk σ pins H1 s' e s2 I1 hq2
  | ok fl => cases fl <;> first | exact I1.after hq2 | exact False.elim hq2
end
end DL

/-! DLNx: [..] * n. -/
namespace DL
open PySem PySem.Spec PyProof.Rows L2
section
variable {X : Cx} {W : WX} {K : PySem.W.Frag} {b : Expr} {es : List Expr} {w : WA} {wb : DL.WE} {p1 pos : Pos}
def wLRep (w : WA) (wb : DL.WE) : DL.WE := fun ρ cs P Z => w ρ cs (fun ds cs1 => wb ρ cs1 (fun y cs2 => ∃ k : Nat, y = .int (k : Int) ∧ ds.length * k ≤ 100000 ∧ k ≤ 100000 ∧ P (.lst (List.replicate k ds).flatten) cs2) Z) Z
theorem d_lrep (h : DA X W es w) (hb : DE X W b wb) (hn : es.length ≤ 1000 := by decide) : DE X W (.BinOp (.List es p1) .Mult b pos) (wLRep w wb) :=
  PE.imp (pe_op L2.op_rep (pe_lst h) hb) fun σ H Q hq => by
    obtain ⟨F, cs, ρ, P, Z, s, re, hw, pe, px⟩ := hq
    refine ⟨F, cs, ρ, _, Z, s, re, hw, fun H1 cs1 vs ds s1 r1 l1 h1 => ⟨by rw [r1.length, l1]; exact small_es hn, fun p hp => ?_⟩, px⟩
    obtain ⟨s2, e2⟩ := s1.new (o := .lst vs) hp
    refine ⟨F, cs1, ρ, _, Z, s2.self, re.mono (s1.gr.trans s2.gr), h1, fun H2 cs2 v d s3 r3 h3 => ?_, px.le (s1.gr.trans s2.gr)⟩
    obtain ⟨k, rfl, hk, hk2, h4⟩ := h3
    cases r3
    refine ⟨p, k, vs, rfl, rfl, pur_le _ _ (s3.gr _ _ e2), by omega, by omega, ?_, fun p2 hp2 => ?_⟩
    · rw [r1.length]
      have e : ((k : Int)).toNat = k := by omega
      rw [e]
      exact Nat.le_trans hk (by decide)
    · rw [show ((k : Int)).toNat = k by omega]
      obtain ⟨s4, e4⟩ := s3.new (o := .lst (List.replicate k vs).flatten) hp2
      exact pe _ cs2 _ _ (s4.from_ ((s1.gr.trans s2.gr).trans s3.gr)) (.lst (SqL.of e4) ((r1.mono ((s2.gr.trans s3.gr).trans s4.gr)).rep k)) h4
theorem r_lrep {ρ : DL.Env} {cs : Cs} {P : DP} {Z : XZ} (h : w ρ cs (fun ds cs1 => wb ρ cs1 (fun y cs2 => ∃ k : Nat, y = .int (k : Int) ∧ ds.length * k ≤ 100000 ∧ k ≤ 100000 ∧ P (.lst (List.replicate k ds).flatten) cs2) Z) Z) : wLRep w wb ρ cs P Z := h
theorem r_lrepE {ds : List D} {k : Nat} {P : DP} {cs : Cs} (h1 : ds.length * k ≤ 100000) (h2 : k ≤ 100000) (h : P (.lst (List.replicate k ds).flatten) cs) : ∃ k' : Nat, D.int (k : Int) = .int (k' : Int) ∧ ds.length * k' ≤ 100000 ∧ k' ≤ 100000 ∧ P (.lst (List.replicate k' ds).flatten) cs := ⟨k, rfl, h1, h2, h⟩
end
end DL
/-! ### keyword calls in any order, some left out -/
namespace DL
open PySem PySem.Spec PyProof.Rows L2
def pickL {α : Type} (is : List Nat) (xs : List α) : List α := is.filterMap fun i => xs[i]?
theorem Vals.pick {vs : List V} {us : List Value} (r : Vals vs us) : ∀ is : List Nat, Vals (pickL is vs) (pickL is us)
  | [] => .nil
  | i :: is => by
    unfold pickL
    rw [List.filterMap_cons, List.filterMap_cons]
    cases e : vs[i]? with
    | none =>
      have e2 : us[i]? = none := r.none_of e
      rw [e2]
      exact Vals.pick r is
    | some v =>
      obtain ⟨u, e2, rv⟩ := r.get e
      rw [e2]
      exact .cons rv (Vals.pick r is)
theorem RepL.getV {K : PySem.W.Frag} {G : Hp} : ∀ {vs : List V} {ds : List D} {i : Nat} {v : V}, RepL K G vs ds → vs[i]? = some v → ∃ d, ds[i]? = some d ∧ Rep K G v d
  | _, _, _, _, .nil, e => by simp at e
  | _, _, 0, _, .cons h _, e => by simp at e; subst e; exact ⟨_, rfl, h⟩
  | _, _, i + 1, d, .cons _ r, e => by
    obtain ⟨u, h1, h2⟩ := RepL.getV (i := i) (v := d) r (by simpa using e)
    exact ⟨u, by simpa using h1, h2⟩
theorem RepL.pick {K : PySem.W.Frag} {G : Hp} {vs : List V} {ds : List D} (r : RepL K G vs ds) : ∀ is : List Nat, RepL K G (pickL is vs) (pickL is ds)
  | [] => .nil
  | i :: is => by
    unfold pickL
    rw [List.filterMap_cons, List.filterMap_cons]
    cases e : vs[i]? with
    | none =>
      have e2 : ds[i]? = none := by
        have h2 := List.getElem?_eq_none_iff.mp e
        exact List.getElem?_eq_none_iff.mpr (by rw [← r.length]; exact h2)
      rw [e2]
      exact RepL.pick r is
    | some v =>
      obtain ⟨u, e2, rv⟩ := r.getV e
      rw [e2]
      exact .cons rv (RepL.pick r is)
theorem pick_len {α : Type} {xs : List α} : ∀ {is : List Nat}, (∀ i ∈ is, i < xs.length) → (pickL is xs).length = is.length
  | [], _ => rfl
  | i :: is, h => by
    have h1 := h i (List.mem_cons_self ..)
    unfold pickL
    rw [List.filterMap_cons, List.getElem?_eq_getElem h1]
    exact congrArg Nat.succ (pick_len fun j hj => h j (List.mem_cons_of_mem _ hj))
section
variable {X : Cx} {W : WX} {e : Expr} {es : List Expr} {w wk : WA} {x : Str} {p pos : Pos}
def wCallG (sp : DSp) (is : List Nat) (ms : List D) (w wk : WA) : DL.WE := fun ρ cs P Z => w ρ cs (fun ds cs1 => wk ρ cs1 (fun zs cs2 => sp (ds ++ pickL is (ms ++ zs)) cs2 P Z) Z) Z
theorem d_callKG {k n m : Nat} {f : Addr} {fd : FuncData} {ps ks : List Str} {sp : DSp} {kws : List Keyword} {is : List Nat} {mvs : List V} {ms : List D} (F : FnOk X.prog X.w X.K X.mg X.base (L2.CX X.prog X.w) k f fd ps (spL X.K m sp)) (hr : Room k X.A) (hg : Gl X x) (hm : X.mg x = some (.ref f)) (hk : PySem.W.keepIn X.K (.ref f) = true)
    (hb : ∃ mv : List Value, KBn X.K fd ps n ks (fun us ws => us ++ pickL is (mv ++ ws)) (fun vs zs => vs ++ pickL is (mvs ++ zs))) (hms : ∀ G, RepL X.K G mvs ms) (tk : Takes X W) (ha : DA X W (e :: es) w) (hkw : DK X W kws wk)
    (hn : (e :: es).length = n := by rfl) (hn2 : kws.length = ks.length := by rfl) (hn3 : ∀ i ∈ is, i < ms.length + ks.length := by decide) (hn4 : n + is.length = m := by rfl)
    (hall : (backToKw pos (keywordEach kws X.env)).all (·.1.isSome) = true := by rfl) (hks : (backToKw pos (keywordEach kws X.env)).filterMap (·.1) = ks := by rfl)
    (hdb : (x == ("__debug__" : Str)) = false := by decide) (he : starEach (e :: es) X.env = (false, eval e X.env) :: starEach es X.env := by rfl)
    (hpl : ((backTo pos (starEach (e :: es) X.env)).any (·.1) || (backToKw pos (keywordEach kws X.env)).any (·.1.isNone)) = false := by rfl) :
    DE X W (.Call (.Name x p) (e :: es) kws pos) (wCallG sp is ms w wk) := by
  obtain ⟨mv, hb⟩ := hb
  refine PE.imp (pe_callNS (E := L2.WE W) F hr hg hm hk hb (fun σ => passAt tk σ) ha hkw hall hks hdb he hpl) fun σ H Q h => ?_
  obtain ⟨F, cs, ρ, P, Z, s, re, hw, pe, px⟩ := h
  refine ⟨F, cs, ρ, _, Z, s, re, hw, fun H1 cs1 vs ds s1 r1 l1 h1 => ?_, px⟩
  refine ⟨F, cs1, ρ, _, Z, s1.self, re.mono s1.gr, h1, fun H2 cs2 zs es s2 r2 l2 h2 => ⟨by rw [r1.length, l1]; exact hn, by rw [r2.length, l2]; exact hn2, ?_⟩, px.le s1.gr⟩
  have g := s1.gr.trans s2.gr
  exact ⟨F, cs2, _, P, Z, s2.self, (r1.mono s2.gr).append (((hms _).append r2).pick is), by rw [List.length_append, l1, hn, pick_len (fun i hi => by rw [List.length_append, l2, hn2]; exact hn3 i hi)]; exact hn4, h2, pe.le g, px.le g⟩
variable {sp : DSp} {is : List Nat} {ms : List D} {ρ : DL.Env} {cs : Cs} {P : DP} {Z : XZ}
theorem r_callG (h : w ρ cs (fun ds cs1 => wk ρ cs1 (fun zs cs2 => sp (ds ++ pickL is (ms ++ zs)) cs2 P Z) Z) Z) : wCallG sp is ms w wk ρ cs P Z := h
theorem r_pk1 {ds xs : List D} {i : Nat} {a : D} (ha : xs[i]? = some a) (h : sp (ds ++ [a]) cs P Z) : sp (ds ++ pickL [i] xs) cs P Z := by
  unfold pickL
  simp only [List.filterMap_cons, ha, List.filterMap_nil]
  exact h
theorem r_pk2 {ds xs : List D} {i j : Nat} {a b : D} (ha : xs[i]? = some a) (hb : xs[j]? = some b) (h : sp (ds ++ [a, b]) cs P Z) : sp (ds ++ pickL [i, j] xs) cs P Z := by
  unfold pickL
  simp only [List.filterMap_cons, ha, hb, List.filterMap_nil]
  exact h
end
end DL
/-! ### xs[i:j] * n -/
namespace DL
open PySem PySem.Spec PyProof.Rows L2
section
variable {X : Cx} {W : WX} {e b : Expr} {we wb : DL.WE} {lo hi : Option Expr} {wl wh : WO} {p1 p2 pos : Pos}
def wSlRep (we : DL.WE) (wl wh : WO) (wb : DL.WE) : DL.WE := fun ρ cs P Z => we ρ cs (fun x cs1 => wl ρ cs1 (fun l cs2 => wh ρ cs2 (fun u cs3 => match x with
  | .lst xs => wb ρ cs3 (fun y cs4 => ∃ k : Nat, y = .int (k : Int) ∧ (cutD xs l u).length * k ≤ 100000 ∧ k ≤ 100000 ∧ P (.lst (List.replicate k (cutD xs l u)).flatten) cs4) Z
  | _ => False) Z) Z) Z
theorem d_slrep (he : DE X W e we) (hl : DOp X W lo wl) (hu : DOp X W hi wh) (hb : DE X W b wb) : DE X W (.BinOp (.Subscript e (.Slice lo hi none p2) p1) .Mult b pos) (wSlRep we wl wh wb) :=
  PE.imp (pe_op L2.op_rep (pe_slice sl_list he hl hu) hb) fun σ H Q hq => by
    obtain ⟨F, cs, ρ, P, Z, s, re, hw, pe, px⟩ := hq
    refine ⟨F, cs, ρ, _, Z, s, re, hw, fun H1 cs1 v d s1 r1 h1 => ?_, px⟩
    refine ⟨F, cs1, ρ, _, Z, s1.self, re.mono s1.gr, h1, fun H2 cs2 l s2 h2 => ?_, px.le s1.gr⟩
    refine ⟨F, cs2, ρ, _, Z, s2.self, re.mono (s1.gr.trans s2.gr), h2, fun H3 cs3 u s3 h3 => ?_, px.le (s1.gr.trans s2.gr)⟩
    have g3 := (s1.gr.trans s2.gr).trans s3.gr
    by_cases hx : ∃ xs, d = .lst xs
    case neg =>
      cases d <;> first | exact (hx ⟨_, rfl⟩).elim | exact h3.elim
    case pos =>
    obtain ⟨xs, rfl⟩ := hx
    cases r1 with
    | @lst a vs _ hs r =>
    have hs3 := ex_l (s2.gr.trans s3.gr) hs
    have r3 := r.mono (s2.gr.trans s3.gr)
    refine ⟨a, vs, rfl, ex_l pur_le hs3, fun p hp => ?_⟩
    obtain ⟨s4, e4⟩ := s3.self.new (o := .lst (cutV vs l u)) hp
    refine ⟨F, cs3, ρ, _, Z, s4.self, re.mono (g3.trans s4.gr), h3, fun H5 cs5 y dy s5 r5 h5 => ?_, px.le (g3.trans s4.gr)⟩
    obtain ⟨k, rfl, hk, hk2, h6⟩ := h5
    cases r5
    have rc := ((r3.cut l u).mono s4.gr).mono s5.gr
    have ek : ((k : Int)).toNat = k := by omega
    refine ⟨p, k, cutV vs l u, rfl, rfl, pur_le _ _ (s5.gr _ _ e4), by omega, by omega, by rw [rc.length, ek]; exact Nat.le_trans hk (by decide), fun q hq => ?_⟩
    obtain ⟨s6, e6⟩ := s5.new (o := .lst (List.replicate k (cutV vs l u)).flatten) hq
    rw [ek]
    exact pe _ cs5 _ _ (s6.from_ ((g3.trans s4.gr).trans s5.gr)) (.lst (SqL.of e6) ((rc.mono s6.gr).rep k)) h6
theorem r_slrep {ρ : DL.Env} {cs : Cs} {P : DP} {Z : XZ} (h : we ρ cs (fun x cs1 => wl ρ cs1 (fun l cs2 => wh ρ cs2 (fun u cs3 => match x with
  | .lst xs => wb ρ cs3 (fun y cs4 => ∃ k : Nat, y = .int (k : Int) ∧ (cutD xs l u).length * k ≤ 100000 ∧ k ≤ 100000 ∧ P (.lst (List.replicate k (cutD xs l u)).flatten) cs4) Z
  | _ => False) Z) Z) Z) : wSlRep we wl wh wb ρ cs P Z := h
theorem r_slrM {xs : List D} {S : List D → Prop} (h : S xs) : (match D.lst xs with | .lst xs => S xs | _ => False) := h
end
section
variable {b : Bx} {cs : Cs} {P : DP}
theorem r_slB {lo hi : Option Int} (h : P (.tup (DL.cutD [dR b.l, dR b.t, dR b.w, dR b.h] lo hi)) cs) : oSlT b.d lo hi cs P := h
theorem r_listB (h : P (.lst [dR b.l, dR b.t, dR b.w, dR b.h]) cs) : oList [b.d] cs P := h
theorem r_lenB (h : P (.int 4) cs) : oLen [b.d] cs P := h
theorem r_catB {xs : List D} (hl : xs.length ≤ 1000) (h : P (.tup ([dR b.l, dR b.t, dR b.w, dR b.h] ++ xs)) cs) : oCatT b.d (.tup xs) cs P := ⟨by show 4 + xs.length ≤ _; omega, h⟩
end
end DL
/-! ### in, not in of a tuple of plain data; a global tuple -/
namespace DL
open PySem PySem.Spec PyProof.Rows L2
section
variable {X : Cx} {W : WX} {K : PySem.W.Frag} {σ : L2.St} {H : Hp} {a b e : Expr} {wa wb we : DL.WE} {pos : Pos}
def rInQ (K : PySem.W.Frag) (neg : Bool) : R2 := fun x y H Q => ∃ p ys ds d, y = .ref p ∧ SqT K H p ys ∧ DpAll K H ys ds ∧ Dp K H x d ∧ PyData.plainAll ds = true ∧ d.plain = true ∧ d.depth ≤ 60 ∧ Q (.bl (if neg then !(ds.any fun z => PyData.eqv z d) else ds.any fun z => PyData.eqv z d)) H
theorem op_inQ (hu : X.A.units + 64 < cLine) : OpR X (compareOp .In) (rInQ X.K false) := by
  intro pins s σ H x y v u Q I rx ry h
  obtain ⟨p, ys, ds, d, rfl, hs, hds, hd, p1, p2, p3, q⟩ := h
  obtain ⟨as, r1⟩ := Dp.reads I (.tuple ds) (.ref p) u (.tup hs hds) ry
  obtain ⟨bs, r2⟩ := Dp.reads I d x v hd rx
  refine PySem.SeqAt.in_tuple_data r1 r2 p1 p2 ?_ ⟨.bl _, H, I, rfl, q⟩
  have h2 : min (PyData.depthAll ds) d.depth ≤ d.depth := Nat.min_le_right _ _
  omega
theorem op_notInQ (hu : X.A.units + 64 < cLine) : OpR X (compareOp .NotIn) (rInQ X.K true) := by
  intro pins s σ H x y v u Q I rx ry h
  obtain ⟨p, ys, ds, d, rfl, hs, hds, hd, p1, p2, p3, q⟩ := h
  obtain ⟨as, r1⟩ := Dp.reads I (.tuple ds) (.ref p) u (.tup hs hds) ry
  obtain ⟨bs, r2⟩ := Dp.reads I d x v hd rx
  refine PySem.SeqAt.notIn_tuple_data r1 r2 p1 p2 ?_ ⟨.bl _, H, I, rfl, q⟩
  have h2 : min (PyData.depthAll ds) d.depth ≤ d.depth := Nat.min_le_right _ _
  omega
def oInQ : DO2 := fun x y cs P => match y with
  | .tup xs => plL 20 xs = true ∧ plD 20 x = true ∧ P (.bl (xs.any fun z => eqD z x)) cs
  | _ => False
def oNotInQ : DO2 := fun x y cs P => match y with
  | .tup xs => plL 20 xs = true ∧ plD 20 x = true ∧ P (.bl (!(xs.any fun z => eqD z x))) cs
  | _ => False
theorem adq_inQ : Adq K (rInQ K false) oInQ := fun F cs H x y dx dy P Q s rx ry ho pe => by
  cases dy <;> try exact ho.elim
  obtain ⟨p1, p2, h⟩ := ho
  cases ry with
  | tup h1 h2 =>
    have a2 := plD_plain _ 20 p2
    refine ⟨_, _, _, _, rfl, ex_t pur_le h1, RepL.dp pur_le 20 h2 p1, Rep.dp pur_le 20 rx p2, (plL_plain _ 20 p1).1, a2.1, Nat.le_trans a2.2 (by decide), ?_⟩
    rw [if_neg (by decide), any_eqv _ p2 _ p1]
    exact pe H cs _ _ s (.bl _) h
theorem adq_notInQ : Adq K (rInQ K true) oNotInQ := fun F cs H x y dx dy P Q s rx ry ho pe => by
  cases dy <;> try exact ho.elim
  obtain ⟨p1, p2, h⟩ := ho
  cases ry with
  | tup h1 h2 =>
    have a2 := plD_plain _ 20 p2
    refine ⟨_, _, _, _, rfl, ex_t pur_le h1, RepL.dp pur_le 20 h2 p1, Rep.dp pur_le 20 rx p2, (plL_plain _ 20 p1).1, a2.1, Nat.le_trans a2.2 (by decide), ?_⟩
    rw [if_pos rfl, any_eqv _ p2 _ p1]
    exact pe H cs _ _ s (.bl _) h
theorem d_inQ (hu : X.A.units + 64 < cLine) (ha : DE X W a wa) (hb : DE X W b wb) (hm : behindInMarks .In b = false := by rfl) : DE X W (.Compare a [.In] [b] pos) (wOp oInQ wa wb) := d_cmp (op_inQ hu) adq_inQ ha hb hm
theorem d_notinQ (hu : X.A.units + 64 < cLine) (ha : DE X W a wa) (hb : DE X W b wb) (hm : behindInMarks .NotIn b = false := by rfl) : DE X W (.Compare a [.NotIn] [b] pos) (wOp oNotInQ wa wb) := d_cmp (op_notInQ hu) adq_notInQ ha hb hm
theorem dt_inQ (hu : X.A.units + 64 < cLine) (ha : DE X W a wa) (hb : DE X W b wb) (hm : behindInMarks .In b = false := by rfl) : DT X W (.Compare a [.In] [b] pos) (wTest (wOp oInQ wa wb)) := dt_cmp (op_inQ hu) adq_inQ ha hb hm
theorem dt_notinQ (hu : X.A.units + 64 < cLine) (ha : DE X W a wa) (hb : DE X W b wb) (hm : behindInMarks .NotIn b = false := by rfl) : DT X W (.Compare a [.NotIn] [b] pos) (wTest (wOp oNotInQ wa wb)) := dt_cmp (op_notInQ hu) adq_notInQ ha hb hm
theorem r_inQ {d : D} {xs : List D} {cs : Cs} {P : DP} (h1 : plL 20 xs = true) (h2 : plD 20 d = true) (h : P (.bl (xs.any fun z => eqD z d)) cs) : oInQ d (.tup xs) cs P := ⟨h1, h2, h⟩
theorem r_notinQ {d : D} {xs : List D} {cs : Cs} {P : DP} (h1 : plL 20 xs = true) (h2 : plD 20 d = true) (h : P (.bl (!(xs.any fun z => eqD z d))) cs) : oNotInQ d (.tup xs) cs P := ⟨h1, h2, h⟩
/-- a global tuple of plain things -/
def dvD : He.Dv → D
  | .non => .non
  | .bl b => .bl b
  | .int i => .int i
  | .str x => .str x
  | _ => .non
theorem dv_rep {K : PySem.W.Frag} {G : Hp} : ∀ {vs : List He.Dv}, (vs.all fun v => match v with | .non | .bl _ | .int _ | .str _ => true | _ => false) = true → RepL K G (vs.map (He.Dv.v K)) (vs.map dvD)
  | [], _ => .nil
  | v :: vs, h => by
    simp only [List.all_cons, Bool.and_eq_true] at h
    refine .cons ?_ (dv_rep h.2)
    have h1 := h.1
    cases v <;> first | exact .non | exact .bl _ | exact .int _ | exact .str _ | cases h1
theorem d_gtup {x : Str} {vs : List He.Dv} (hg : Gl X x) (hm : X.mg x = some (.ref (He.ga X.K x))) (ht : He.tupB X.K x vs = true) (hv : (vs.all fun v => match v with | .non | .bl _ | .int _ | .str _ => true | _ => false) = true := by rfl) (hd : (x == ("__debug__" : Str)) = false := by decide) :
    DE X W (.Name x pos) (wC (.tup (vs.map dvD))) := by
  refine PE.imp (pe_glob (v := .ref (He.ga X.K x)) hg hm rfl hd) fun σ H Q hq => ?_
  obtain ⟨F, cs, ρ, P, Z, s, re, hw, pe, px⟩ := hq
  exact pe H cs _ _ s (.tup (He.tupB_ok ht _) (dv_rep hv)) hw
end
end DL

/-! DLSl: boxes split into two, again and again: trees, their boxes, the least worst shape, papers. -/
namespace DL
open PySem L2
inductive Tr where
  | lf
  | nd (dn : Bool) (a b : Tr)
def Tr.d : Tr → D
  | .lf => .tup []
  | .nd dn a b => .tup [sideD dn, a.d, b.d]
def Tr.n : Tr → Nat
  | .lf => 1
  | .nd _ a b => a.n + b.n
theorem Tr.n_pos : ∀ t : Tr, 1 ≤ t.n
  | .lf => Nat.le_refl _
  | .nd _ a b => by have := a.n_pos; have := b.n_pos; show 1 ≤ a.n + b.n; omega
theorem Tr.knD : ∀ t : Tr, knD t.d = true
  | .lf => rfl
  | .nd dn a b => by
    show (DL.knD (sideD dn) && (DL.knD a.d && (DL.knD b.d && true))) = true
    rw [a.knD, b.knD]; rfl
theorem Tr.plD : ∀ (t : Tr) (n : Nat), t.n ≤ n → plD n t.d = true
  | .lf, n, h => by
    cases n with
    | zero => cases h
    | succ n => exact plD_tI rfl (by decide)
  | .nd dn a b, n, h => by
    have ha := a.n_pos
    have hb := b.n_pos
    have h' : a.n + b.n ≤ n := h
    cases n with
    | zero => omega
    | succ n =>
      refine plD_tI ?_ (by show 3 ≤ 100000; decide)
      show (DL.plD n (sideD dn) && (DL.plD n a.d && (DL.plD n b.d && true))) = true
      rw [a.plD n (by omega), b.plD n (by omega)]
      cases n <;> rfl
/-! ### two boxes of a split -/
def twoW (ws : List Int) (k : Nat) : List Int := [(ws.take k).sum, (ws.drop k).sum]
def fstB (b : Bx) (ws : List Int) (k : Nat) (dn : Bool) : Bx := splitAt_ b (twoW ws k) dn 0
def sndB (b : Bx) (ws : List Int) (k : Nat) (dn : Bool) : Bx := splitAt_ b (twoW ws k) dn 1
theorem split_two (b : Bx) (ws : List Int) (k : Nat) (dn : Bool) : splitB b (twoW ws k) dn = [fstB b ws k dn, sndB b ws k dn] := rfl
/-- things of a slicing: few, each a weight -/
structure FOk (ws : List Int) : Prop where
  l0 : 1 ≤ ws.length
  l1 : ws.length ≤ 12
  rg : ∀ w ∈ ws, 1 ≤ w ∧ w ≤ 400000
theorem FOk.wt {ws : List Int} (h : FOk ws) : WtOk ws := ⟨h.l0, h.l1, h.rg⟩
theorem WtOk.f {ws : List Int} (h : WtOk ws) : FOk ws := ⟨h.l0, h.l1, h.rg⟩
theorem WtOk.take {ws : List Int} (h : WtOk ws) {k : Nat} (h0 : 1 ≤ k) (h1 : k < ws.length) : WtOk (ws.take k) := by
  have := h.l1
  refine ⟨by rw [List.length_take]; omega, by rw [List.length_take]; omega, fun w hw => h.rg w (List.mem_of_mem_take hw)⟩
theorem WtOk.drop {ws : List Int} (h : WtOk ws) {k : Nat} (h1 : k < ws.length) : WtOk (ws.drop k) := by
  have := h.l1
  refine ⟨by rw [List.length_drop]; omega, by rw [List.length_drop]; omega, fun w hw => h.rg w (List.mem_of_mem_drop hw)⟩
theorem twoW_ok {ws : List Int} (h : WtOk ws) {k : Nat} (h0 : 1 ≤ k) (h1 : k < ws.length) : WOk (twoW ws k) := by
  have t := (h.take h0 h1).wok
  have d := (h.drop h1).wok
  have e : (ws.take k).sum + (ws.drop k).sum = ws.sum := by rw [← List.sum_append, List.take_append_drop]
  have hs := h.wok.sum
  refine ⟨by show 1 ≤ 2; decide, by show 2 ≤ 12; decide, fun w hw => ?_, ?_⟩
  · have a := t.sum_pos
    have b := d.sum_pos
    rcases List.mem_cons.mp hw with z | z
    · omega
    · have z := List.mem_singleton.mp z
      omega
  · show (ws.take k).sum + ((ws.drop k).sum + 0) < 2 ^ 23
    omega
theorem fst_pos {b : Bx} (hp : b.Pos) {ws : List Int} (h : WtOk ws) {k : Nat} (h0 : 1 ≤ k) (h1 : k < ws.length) (dn : Bool) : (fstB b ws k dn).Pos := splitAt_pos hp (twoW_ok h h0 h1) dn (i := 0) rfl
theorem snd_pos {b : Bx} (hp : b.Pos) {ws : List Int} (h : WtOk ws) {k : Nat} (h0 : 1 ≤ k) (h1 : k < ws.length) (dn : Bool) : (sndB b ws k dn).Pos := splitAt_pos hp (twoW_ok h h0 h1) dn (i := 1) rfl
/-- sizes of a box that was split so often -/
structure Bx.Lv (b : Bx) (k : Nat) : Prop where
  l : DL.Sz (202 + 320 * k) b.l
  t : DL.Sz (202 + 320 * k) b.t
  w : DL.Sz (202 + 23 * k) b.w
  h : DL.Sz (202 + 23 * k) b.h
theorem Bx.Sz.lv {b : Bx} (h : b.Sz 202) : b.Lv 0 := ⟨h.l, h.t, h.w, h.h⟩
theorem Bx.Lv.sz {b : Bx} {k : Nat} (h : b.Lv k) (hk : k ≤ 5) : b.Sz 1900 := ⟨h.l.mono (by omega), h.t.mono (by omega), h.w.mono (by omega), h.h.mono (by omega)⟩
theorem Bx.Lv.shp {b : Bx} {k : Nat} (h : b.Lv k) (hk : k ≤ 5) (hp : b.Pos) : DL.Sz 4000 (shapeR b.w b.h) := (DL.Sz.shape h.w h.h hp.w hp.h).mono (by omega)
theorem lv_split {b : Bx} {k : Nat} (h : b.Lv k) (hk : k ≤ 4) {ws : List Int} (hw : WOk ws) (dn : Bool) {i : Nat} (hi : i < ws.length) : (splitAt_ b ws dn i).Lv (k + 1) := by
  have e : ws[i]? = some (ws.getD i 0) := by rw [List.getD_eq_getElem?_getD, List.getElem?_eq_getElem hi]; rfl
  have h1 := preS_nonneg hw.pos i
  have h2 := preS_le hw.pos i
  have h3 := hw.sum
  have h4 := hw.sum_pos
  have h5 := mem_le_sum hw.pos e
  have h6 := hw.pos _ (List.mem_of_getElem? e)
  have hx := Sz.frac h1 (by omega) h4 h3
  have hy := Sz.frac (a := ws.getD i 0) (by omega) (by omega) h4 h3
  unfold splitAt_ cutB
  cases dn with
  | true => exact ⟨h.l.mono (by omega), (h.t.add (h.h.mul hx)).mono (by omega), h.w.mono (by omega), (h.h.mul hy).mono (by omega)⟩
  | false => exact ⟨(h.l.add (h.w.mul hx)).mono (by omega), h.t.mono (by omega), (h.w.mul hy).mono (by omega), h.h.mono (by omega)⟩
theorem fst_lv {b : Bx} {j : Nat} (h : b.Lv j) (hj : j ≤ 4) {ws : List Int} (hw : WtOk ws) {k : Nat} (h0 : 1 ≤ k) (h1 : k < ws.length) (dn : Bool) : (fstB b ws k dn).Lv (j + 1) := lv_split h hj (twoW_ok hw h0 h1) dn (by show 0 < 2; decide)
theorem snd_lv {b : Bx} {j : Nat} (h : b.Lv j) (hj : j ≤ 4) {ws : List Int} (hw : WtOk ws) {k : Nat} (h0 : 1 ≤ k) (h1 : k < ws.length) (dn : Bool) : (sndB b ws k dn).Lv (j + 1) := lv_split h hj (twoW_ok hw h0 h1) dn (by show 1 < 2; decide)
/-! ### a tree's boxes, their worst shape -/
def slc : Tr → Bx → List Int → List Bx
  | .lf, b, _ => [b]
  | .nd dn x y, b, ws => slc x (fstB b ws x.n dn) (ws.take x.n) ++ slc y (sndB b ws x.n dn) (ws.drop x.n)
def tw : Tr → Bx → List Int → Rat
  | .lf, b, _ => shapeR b.w b.h
  | .nd dn x y, b, ws => mxR (tw x (fstB b ws x.n dn) (ws.take x.n)) (tw y (sndB b ws x.n dn) (ws.drop x.n))
theorem slc_len : ∀ (t : Tr) (b : Bx) (ws : List Int), (slc t b ws).length = t.n
  | .lf, _, _ => rfl
  | .nd dn x y, b, ws => by
    show (slc x _ _ ++ slc y _ _).length = x.n + y.n
    rw [List.length_append, slc_len x, slc_len y]
theorem slc_ok : ∀ (t : Tr) (b : Bx) (ws : List Int) (k : Nat), t.n = ws.length → WtOk ws → b.Pos → b.Lv k → k + ws.length ≤ 6 → ∀ c ∈ slc t b ws, c.Pos ∧ ∃ j, j ≤ 5 ∧ c.Lv j
  | .lf, b, ws, k, hn, hw, hp, hl, hk, c, hc => by
    rw [List.mem_singleton.mp hc]
    have := hw.l0
    exact ⟨hp, k, by omega, hl⟩
  | .nd dn x y, b, ws, k, hn, hw, hp, hl, hk, c, hc => by
    have hx := x.n_pos
    have hy := y.n_pos
    have hn' : x.n + y.n = ws.length := hn
    have h1 : x.n < ws.length := by omega
    rcases List.mem_append.mp hc with z | z
    · exact slc_ok x _ _ (k + 1) (by rw [List.length_take]; omega) (hw.take hx h1) (fst_pos hp hw hx h1 dn) (fst_lv hl (by omega) hw hx h1 dn) (by rw [List.length_take]; omega) c z
    · exact slc_ok y _ _ (k + 1) (by rw [List.length_drop]; omega) (hw.drop h1) (snd_pos hp hw hx h1 dn) (snd_lv hl (by omega) hw hx h1 dn) (by rw [List.length_drop]; omega) c z
theorem mxR_le {a b c : Rat} : mxR a b ≤ c ↔ a ≤ c ∧ b ≤ c := by
  by_cases h : a < b
  · rw [mxR_pos h]
    exact ⟨fun z => ⟨Rat.le_trans (Rat.le_of_lt h) z, z⟩, fun z => z.2⟩
  · rw [mxR_neg h]
    exact ⟨fun z => ⟨z, Rat.le_trans (Rat.not_lt.mp h) z⟩, fun z => z.1⟩
theorem mxR_mem (a b : Rat) : mxR a b = a ∨ mxR a b = b := by
  by_cases h : a < b
  · exact .inr (mxR_pos h)
  · exact .inl (mxR_neg h)
theorem tw_max : ∀ (t : Tr) (b : Bx) (ws : List Int), IsMax (tw t b ws) ((slc t b ws).map fun c => shapeR c.w c.h)
  | .lf, b, ws => ⟨List.mem_singleton.mpr rfl, fun y hy => by rw [List.mem_singleton.mp hy]; exact Rat.le_refl⟩
  | .nd dn x y, b, ws => by
    have hx := tw_max x (fstB b ws x.n dn) (ws.take x.n)
    have hy := tw_max y (sndB b ws x.n dn) (ws.drop x.n)
    refine ⟨?_, fun z hz => ?_⟩
    · show mxR _ _ ∈ (slc x _ _ ++ slc y _ _).map _
      rw [List.map_append, List.mem_append]
      rcases mxR_mem (tw x (fstB b ws x.n dn) (ws.take x.n)) (tw y (sndB b ws x.n dn) (ws.drop x.n)) with e | e
      · rw [e]; exact .inl hx.mem
      · rw [e]; exact .inr hy.mem
    · have hz' : z ∈ (slc x (fstB b ws x.n dn) (ws.take x.n) ++ slc y (sndB b ws x.n dn) (ws.drop x.n)).map fun c => shapeR c.w c.h := hz
      rw [List.map_append, List.mem_append] at hz'
      have e := mxR_le.mp (Rat.le_refl (a := tw (.nd dn x y) b ws))
      rcases hz' with q | q
      · exact Rat.le_trans (hx.le z q) e.1
      · exact Rat.le_trans (hy.le z q) e.2
theorem slc_ne (t : Tr) (b : Bx) (ws : List Int) : (slc t b ws).map (fun c => shapeR c.w c.h) ≠ [] := fun z => by
  have := congrArg List.length z
  rw [List.length_map, slc_len] at this
  have := t.n_pos
  simp at *
  omega
theorem tw_eq (t : Tr) (b : Bx) (ws : List Int) : maxL ((slc t b ws).map fun c => shapeR c.w c.h) = tw t b ws := maxL_eq (tw_max t b ws)
theorem tw_sz {t : Tr} {b : Bx} {ws : List Int} {k : Nat} (hn : t.n = ws.length) (hw : WtOk ws) (hp : b.Pos) (hl : b.Lv k) (hk : k + ws.length ≤ 6) : DL.Sz 4000 (tw t b ws) := by
  obtain ⟨c, hc, e⟩ := List.mem_map.mp (tw_max t b ws).mem
  obtain ⟨pc, j, hj, lc⟩ := slc_ok t b ws k hn hw hp hl hk c hc
  rw [← e]
  exact lc.shp hj pc
/-- r is the least worst shape of all trees -/
structure LeastT (b : Bx) (ws : List Int) (r : Rat) : Prop where
  is : ∃ t : Tr, t.n = ws.length ∧ tw t b ws = r
  le : ∀ t : Tr, t.n = ws.length → r ≤ tw t b ws
theorem LeastT.uniq {b : Bx} {ws : List Int} {r s : Rat} (h : LeastT b ws r) (h' : LeastT b ws s) : r = s := by
  obtain ⟨t, e1, e2⟩ := h.is
  obtain ⟨u, e3, e4⟩ := h'.is
  exact Rat.le_antisymm (e4 ▸ h.le u e3) (e2 ▸ h'.le t e1)
theorem least_one {b : Bx} {ws : List Int} (h : ws.length = 1) : LeastT b ws (shapeR b.w b.h) := by
  refine ⟨⟨.lf, h.symm, rfl⟩, fun t ht => ?_⟩
  cases t with
  | lf => exact Rat.le_refl
  | nd dn x y =>
    have hx := x.n_pos
    have hy := y.n_pos
    have : x.n + y.n = ws.length := ht
    omega
/-- the least of the two sides, of all places -/
def spotL (n : Nat) : List (Bool × Nat) := (List.range (n - 1)).map (fun i => (true, i + 1)) ++ (List.range (n - 1)).map (fun i => (false, i + 1))
theorem spot_mem {n : Nat} {p : Bool × Nat} : p ∈ spotL n ↔ 1 ≤ p.2 ∧ p.2 < n := by
  obtain ⟨dn, k⟩ := p
  unfold spotL
  simp only [List.mem_append, List.mem_map, List.mem_range, Prod.mk.injEq]
  refine ⟨fun h => ?_, fun h => ?_⟩
  · rcases h with ⟨i, hi, _, rfl⟩ | ⟨i, hi, _, rfl⟩ <;> (constructor <;> omega)
  · cases dn
    · exact .inr ⟨k - 1, by omega, rfl, by omega⟩
    · exact .inl ⟨k - 1, by omega, rfl, by omega⟩
/-- r is the least at the spot -/
def LeastAt (b : Bx) (ws : List Int) (p : Bool × Nat) (r : Rat) : Prop := ∃ r1 r2, LeastT (fstB b ws p.2 p.1) (ws.take p.2) r1 ∧ LeastT (sndB b ws p.2 p.1) (ws.drop p.2) r2 ∧ r = mxR r1 r2
theorem mxR_mono {a b c d : Rat} (h1 : a ≤ c) (h2 : b ≤ d) : mxR a b ≤ mxR c d := by
  have e := mxR_le.mp (Rat.le_refl (a := mxR c d))
  exact mxR_le.mpr ⟨Rat.le_trans h1 e.1, Rat.le_trans h2 e.2⟩
theorem least_many {b : Bx} {ws : List Int} {r : Rat} (hn : 1 < ws.length) (h1 : ∃ p, p ∈ spotL ws.length ∧ LeastAt b ws p r) (h2 : ∀ p ∈ spotL ws.length, ∃ s, LeastAt b ws p s ∧ r ≤ s) : LeastT b ws r := by
  refine ⟨?_, fun t ht => ?_⟩
  · obtain ⟨⟨dn, k⟩, hp, r1, r2, l1, l2, rfl⟩ := h1
    obtain ⟨k0, k1⟩ := spot_mem.mp hp
    simp only at k0 k1
    obtain ⟨x, ex, ex2⟩ := l1.is
    obtain ⟨y, ey, ey2⟩ := l2.is
    have ex' : x.n = k := by rw [ex, List.length_take]; omega
    refine ⟨.nd dn x y, ?_, ?_⟩
    · show x.n + y.n = _
      rw [ex', ey, List.length_drop]; simp only; omega
    · show mxR (tw x (fstB b ws x.n dn) (ws.take x.n)) (tw y (sndB b ws x.n dn) (ws.drop x.n)) = _
      rw [ex', ex2, ey2]
  · cases t with
    | lf => have : 1 = ws.length := ht; omega
    | nd dn x y =>
      have hx := x.n_pos
      have hy := y.n_pos
      have ht' : x.n + y.n = ws.length := ht
      obtain ⟨s, ⟨r1, r2, l1, l2, rfl⟩, hs⟩ := h2 (dn, x.n) (spot_mem.mpr ⟨hx, by simp only; omega⟩)
      refine Rat.le_trans hs (mxR_mono (l1.le x ?_) (l2.le y ?_))
      · rw [List.length_take]; simp only; omega
      · rw [List.length_drop]; simp only; omega
/-! ### going through the spots: the side's number, the places done -/
def sdN (dn : Bool) : Nat := if dn then 0 else 1
def spS (n i j : Nat) (p : Bool × Nat) : Prop := (sdN p.1 < i ∧ 1 ≤ p.2 ∧ p.2 < n) ∨ (sdN p.1 = i ∧ 1 ≤ p.2 ∧ p.2 ≤ j)
theorem spS_next {n i : Nat} {p : Bool × Nat} : spS n i (n - 1) p ↔ spS n (i + 1) 0 p := by
  unfold spS
  constructor
  · rintro (⟨h1, h2, h3⟩ | ⟨h1, h2, h3⟩)
    · exact .inl ⟨by omega, h2, h3⟩
    · exact .inl ⟨by omega, h2, by omega⟩
  · rintro (⟨h1, h2, h3⟩ | ⟨h1, h2, h3⟩)
    · by_cases e : sdN p.1 = i
      · exact .inr ⟨e, h2, by omega⟩
      · exact .inl ⟨by omega, h2, h3⟩
    · omega
theorem spS_step {n i j : Nat} {p : Bool × Nat} (dn : Bool) (hd : sdN dn = i) : spS n i (j + 1) p ↔ (spS n i j p ∨ p = (dn, j + 1)) := by
  obtain ⟨e, k⟩ := p
  have inj : sdN e = i → e = dn := fun h => by
    cases e <;> cases dn <;> simp [sdN] at h hd <;> first | rfl | omega
  unfold spS
  simp only [Prod.mk.injEq]
  constructor
  · rintro (⟨h1, h2, h3⟩ | ⟨h1, h2, h3⟩)
    · exact .inl (.inl ⟨h1, h2, h3⟩)
    · by_cases q : k ≤ j
      · exact .inl (.inr ⟨h1, h2, q⟩)
      · exact .inr ⟨inj h1, by omega⟩
  · rintro ((⟨h1, h2, h3⟩ | ⟨h1, h2, h3⟩) | ⟨rfl, rfl⟩)
    · exact .inl ⟨h1, h2, h3⟩
    · exact .inr ⟨h1, h2, by omega⟩
    · exact .inr ⟨hd, by omega, by omega⟩
theorem spS_end {n : Nat} {p : Bool × Nat} : spS n 2 0 p ↔ 1 ≤ p.2 ∧ p.2 < n := by
  obtain ⟨e, k⟩ := p
  unfold spS sdN
  cases e <;> simp <;> omega
theorem spS_zero {n : Nat} {p : Bool × Nat} : ¬ spS n 0 0 p := by
  unfold spS
  rintro (⟨h1, _⟩ | ⟨_, h2, h3⟩) <;> omega
/-- what is found behind the spots S: the least worst shape r -/
def FndR (b : Bx) (ws : List Int) (S : Bool × Nat → Prop) (r : Rat) : Prop := (∃ p, S p ∧ LeastAt b ws p r) ∧ ∀ p, S p → ∃ s, LeastAt b ws p s ∧ r ≤ s
theorem fnd_first {b : Bx} {ws : List Int} {S : Bool × Nat → Prop} {q : Bool × Nat} {s : Rat} (h0 : ∀ p, ¬ S p) (hq : LeastAt b ws q s) : FndR b ws (fun p => S p ∨ p = q) s :=
  ⟨⟨q, .inr rfl, hq⟩, fun p hp => hp.elim (fun z => absurd z (h0 p)) fun e => ⟨s, e ▸ hq, Rat.le_refl⟩⟩
theorem fnd_less {b : Bx} {ws : List Int} {S : Bool × Nat → Prop} {q : Bool × Nat} {r s : Rat} (h : FndR b ws S r) (hq : LeastAt b ws q s) (hl : s < r) : FndR b ws (fun p => S p ∨ p = q) s :=
  ⟨⟨q, .inr rfl, hq⟩, fun p hp => hp.elim (fun z => by
    obtain ⟨u, hu, l⟩ := h.2 p z
    exact ⟨u, hu, Rat.le_trans (Rat.le_of_lt hl) l⟩) fun e => ⟨s, e ▸ hq, Rat.le_refl⟩⟩
theorem fnd_stay {b : Bx} {ws : List Int} {S : Bool × Nat → Prop} {q : Bool × Nat} {r s : Rat} (h : FndR b ws S r) (hq : LeastAt b ws q s) (hl : ¬ s < r) : FndR b ws (fun p => S p ∨ p = q) r := by
  obtain ⟨⟨p0, a1, a2⟩, h2⟩ := h
  exact ⟨⟨p0, .inl a1, a2⟩, fun p hp => hp.elim (fun z => h2 p z) fun e => ⟨s, e ▸ hq, Rat.not_lt.mp hl⟩⟩
theorem fnd_congr {b : Bx} {ws : List Int} {S S' : Bool × Nat → Prop} {r : Rat} (e : ∀ p, S p ↔ S' p) (h : FndR b ws S r) : FndR b ws S' r := by
  rw [show S' = S from funext fun p => propext (e p).symm]
  exact h
theorem fnd_end {b : Bx} {ws : List Int} {r : Rat} (hn : 1 < ws.length) (h : FndR b ws (spS ws.length 2 0) r) : LeastT b ws r := by
  obtain ⟨⟨p0, a1, a2⟩, h2⟩ := h
  exact least_many hn ⟨p0, spot_mem.mpr (spS_end.mp a1), a2⟩ fun p hp => h2 p (spS_end.mpr (spot_mem.mp hp))
/-- a tree of the spot, from trees of the halves -/
theorem tw_nd (dn : Bool) (x y : Tr) (b : Bx) (ws : List Int) {k : Nat} (hx : x.n = k) : tw (.nd dn x y) b ws = mxR (tw x (fstB b ws k dn) (ws.take k)) (tw y (sndB b ws k dn) (ws.drop k)) := by
  subst hx; rfl
end DL
/-! ### a, b, .. = a list -/
namespace DL
open PySem PySem.Spec PyProof.Rows L2
section
variable {X : Cx} {W : WX} {es : List Expr} {pos : Pos}
def gL (n : Nat) (gs : WGs) : WG := fun d ρ k => match d with
  | .lst ds => ds.length = n ∧ gs ds ρ k
  | _ => False
theorem dg_lst {kk : Nat} {gs : WGs} {n : Nat} (hc : X.calm = true) (h : DGs X es gs) (hn : (assignEach es X.env).length = n := by rfl) (hst : (assignEach es X.env).findIdx? (·.1) = none := by rfl) : DG X (.Tuple es kk pos) (gL n gs) :=
  PG.imp (L2.pg_lst hc h hn hst) fun v σ H Q hq => by
    obtain ⟨F, cs, ρ, d, k, s, re, r, hw, q⟩ := hq
    cases d <;> try exact hw.elim
    cases r with
    | lst h r => exact ⟨_, _, rfl, ex_l pur_le h, by rw [r.length]; exact hw.1, F, cs, ρ, _, k, s, re, r, hw.2, q⟩
theorem r_gL {n : Nat} {gs : WGs} {ds : List D} {ρ : DL.Env} {k : DL.Env → Prop} (hl : ds.length = n) (h : gs ds ρ k) : gL n gs (.lst ds) ρ k := ⟨hl, h⟩
end
/-! ### what is a tree, of any data -/
theorem sideD_inj {a b : Bool} (h : sideD a = sideD b) : a = b := by
  cases a <;> cases b <;> first | rfl | (injection h with h; exact absurd h (by decide))
theorem Tr.d_inj : ∀ {t u : Tr}, t.d = u.d → t = u
  | .lf, .lf, _ => rfl
  | .lf, .nd _ _ _, e => by cases e
  | .nd _ _ _, .lf, e => by cases e
  | .nd dn a b, .nd dm c e, h => by
    have h' : D.tup [sideD dn, a.d, b.d] = D.tup [sideD dm, c.d, e.d] := h
    injection h' with h'
    injection h' with h1 h2
    injection h2 with h2 h3
    injection h3 with h3 _
    rw [Tr.d_inj h2, Tr.d_inj h3, sideD_inj h1]
theorem eqD_nilT (d : D) : eqD d (.tup []) = true ↔ d = .tup [] := by
  cases d with
  | tup xs => cases xs <;> simp [eqD, eqL]
  | _ => simp [eqD]
theorem any_sides (s : D) : ([D.str "down", D.str "across"].any fun z => eqD z s) = true ↔ ∃ dn, s = sideD dn := by
  cases s with
  | str x =>
    simp only [List.any_cons, List.any_nil, Bool.or_false, Bool.or_eq_true, eqD, beq_iff_eq]
    constructor
    · rintro (h | h)
      · exact ⟨true, by rw [← h]; rfl⟩
      · exact ⟨false, by rw [← h]; rfl⟩
    · rintro ⟨dn, h⟩
      cases dn
      · injection h with h; exact .inr h.symm
      · injection h with h; exact .inl h.symm
  | _ => simp [eqD] <;> exact ⟨fun h => (by cases h), fun h => (by cases h)⟩
theorem r_eqNilT {d : D} {cs : Cs} {P : DP} (hd : plD 20 d = true) (ht : d = .tup [] → P (.bl true) cs) (hf : d ≠ .tup [] → P (.bl false) cs) : oEq d (.tup []) cs P := by
  refine ⟨hd, rfl, ?_⟩
  by_cases e : d = .tup []
  · rw [(eqD_nilT d).mpr e]; exact ht e
  · rw [show eqD d (.tup []) = false from Bool.eq_false_iff.mpr fun z => e ((eqD_nilT d).mp z)]; exact hf e
theorem r_inSides {d : D} {cs : Cs} {P : DP} (hd : plD 20 d = true) (ht : ∀ dn, d = sideD dn → P (.bl true) cs) (hf : (∀ dn, d ≠ sideD dn) → P (.bl false) cs) : oInQ d (.tup [.str "down", .str "across"]) cs P := by
  refine r_inQ rfl hd ?_
  by_cases e : ∃ dn, d = sideD dn
  · rw [(any_sides d).mpr e]; exact ht _ e.choose_spec
  · rw [show ([D.str "down", D.str "across"].any fun z => eqD z d) = false from Bool.eq_false_iff.mpr fun z => e ((any_sides d).mp z)]; exact hf fun dn h => e ⟨dn, h⟩
theorem r_ninSides {d : D} {cs : Cs} {P : DP} (hd : plD 20 d = true) (ht : ∀ dn, d = sideD dn → P (.bl false) cs) (hf : (∀ dn, d ≠ sideD dn) → P (.bl true) cs) : oNotInQ d (.tup [.str "down", .str "across"]) cs P := by
  refine r_notinQ rfl hd ?_
  by_cases e : ∃ dn, d = sideD dn
  · rw [(any_sides d).mpr e]; exact ht _ e.choose_spec
  · rw [show ([D.str "down", D.str "across"].any fun z => eqD z d) = false from Bool.eq_false_iff.mpr fun z => e ((any_sides d).mp z)]; exact hf fun dn h => e ⟨dn, h⟩
def badD : D → Bool
  | .dic _ | .dct _ | .ins _ _ | .xcp _ _ _ _ | .opq _ => true
  | _ => false
theorem plD_bad {n : Nat} {d : D} (h : plD n d = true) (hb : badD d = true) : False := by
  cases d <;> cases n <;> first | (cases hb; done) | (cases h; done)
theorem len_three {xs : List D} (h : xs.length = 3) : ∃ a b c, xs = [a, b, c] := by
  match xs, h with
  | [a, b, c], _ => exact ⟨a, b, c, rfl⟩
open Classical in
/-- whether the data are a tree of so many things -/
noncomputable def isTr (d : D) (m : Int) : Bool := decide (∃ t : Tr, d = t.d ∧ (t.n : Int) = m)
theorem isTr_iff {d : D} {m : Int} : isTr d m = true ↔ ∃ t : Tr, d = t.d ∧ (t.n : Int) = m := by unfold isTr; simp only [decide_eq_true_eq]
theorem isTr_no {d : D} {m : Int} (h : ∀ t : Tr, d ≠ t.d) : isTr d m = false := Bool.eq_false_iff.mpr fun z => by
  obtain ⟨t, e, _⟩ := isTr_iff.mp z
  exact h t e
theorem isTr_nil (m : Int) : isTr (.tup []) m = decide (m = 1) := by
  rw [Bool.eq_iff_iff, isTr_iff, decide_eq_true_iff]
  constructor
  · rintro ⟨t, e, h⟩
    cases t with
    | lf => exact h.symm
    | nd => cases e
  · intro h
    exact ⟨.lf, rfl, h.symm⟩
theorem isTr_t (t : Tr) (m : Int) : isTr t.d m = decide ((t.n : Int) = m) := by
  rw [Bool.eq_iff_iff, isTr_iff, decide_eq_true_iff]
  constructor
  · rintro ⟨u, e, h⟩
    rw [Tr.d_inj e]; exact h
  · intro h
    exact ⟨t, rfl, h⟩
theorem isTr_nd (dn : Bool) (a b : D) {m : Int} {n : Nat} (hn : (m - 1).toNat = n) : ((List.range n).any fun i => isTr a ((1 + i : Nat) : Int) && isTr b (m - ((1 + i : Nat) : Int))) = isTr (.tup [sideD dn, a, b]) m := by
  rw [Bool.eq_iff_iff, isTr_iff, List.any_eq_true]
  simp only [Bool.and_eq_true, isTr_iff, List.mem_range]
  constructor
  · rintro ⟨i, hi, ⟨x, rfl, h1⟩, y, rfl, h2⟩
    exact ⟨.nd dn x y, rfl, by show ((x.n + y.n : Nat) : Int) = m; omega⟩
  · rintro ⟨t, e, h⟩
    cases t with
    | lf => cases e
    | nd dm x y =>
      have hx := x.n_pos
      have hy := y.n_pos
      have h' : ((x.n + y.n : Nat) : Int) = m := h
      injection e with e
      injection e with _ e
      injection e with e1 e
      injection e with e2 _
      exact ⟨x.n - 1, by omega, ⟨x, e1, by omega⟩, y, e2, by omega⟩
/-! ### a comprehension's list, item by item -/
section
variable {gd : WG} {wt : WT} {we : DL.WE} {d : D} {r : List D} {ρ : DL.Env} {cs : Cs} {acc : List D} {P : List D → Cs → Prop}
theorem r_ccons (h : gd d ρ fun ρ1 => wt ρ1 cs (fun b cs1 => (b = true → we ρ1 cs1 (fun y cs2 => compW gd wt we r ρ cs2 (acc ++ [y]) P) Z0) ∧ (b = false → compW gd wt we r ρ cs1 acc P)) Z0) : compW gd wt we (d :: r) ρ cs acc P := h
theorem r_cnil (h : P acc cs) : compW gd wt we [] ρ cs acc P := h
end
end DL

/-! DLZip: zip of two, each a list or a tuple (t: whether a tuple). -/
namespace DL
open PySem
open PySem.Sem (wp)
def sqH (t : Bool) (h : Heap) (l : Addr) (xs : Array Value) : Prop := match t with
  | true => h.IsTuple l xs
  | false => h.IsList l xs
def sqI (t : Bool) (h : Heap) (it l : Addr) (i : Nat) : Prop := match t with
  | true => h.IsTupleIter it l i
  | false => h.IsListIter it l i
def itC : Bool → String
  | true => "tuple_iterator"
  | false => "list_iterator"
theorem sqI_iff {t : Bool} {h : Heap} {it l : Addr} {i : Nat} : sqI t h it l i ↔ ∃ o, h.get? it = some o ∧ o.cls = .type (itC t) ∧ o.data = .fields #[.ref l, .int i 0] := by cases t <;> exact Iff.rfl
theorem sqH.ext {t : Bool} {h h' : Heap} {a b : Addr} {xs : Array Value} (x : sqH t h a xs) (hs : Heap.ExtBut b h h') (hab : a ≠ b) : sqH t h' a xs := by
  cases t
  · exact Heap.IsList.extBut x hs hab
  · exact Heap.IsTuple.extBut x hs hab
theorem sqH.push {t : Bool} {h : Heap} {a : Addr} {xs : Array Value} (x : sqH t h a xs) (o : Obj) : sqH t (h.push o) a xs := by
  cases t
  · exact Heap.IsList.push x o
  · exact Heap.IsTuple.push x o
theorem sqH.lt {t : Bool} {h : Heap} {a : Addr} {xs : Array Value} (x : sqH t h a xs) : a < h.objs.size := by
  cases t
  · obtain ⟨o, e, _⟩ := (show h.IsList a xs from x); exact Heap.lt_size e
  · obtain ⟨o, e, _⟩ := (show h.IsTuple a xs from x); exact Heap.lt_size e
theorem sqI.ext {t : Bool} {h h' : Heap} {a l b : Addr} {i : Nat} (x : sqI t h a l i) (hs : Heap.ExtBut b h h') (hab : a ≠ b) : sqI t h' a l i := by
  obtain ⟨o, e, c, d⟩ := sqI_iff.mp x
  exact sqI_iff.mpr ⟨o, hs a o hab e, c, d⟩
theorem sqI.at {t : Bool} {h h' : Heap} {a l : Addr} {i : Nat} (x : sqI t h a l i) (hk : ∀ o, h.get? a = some o → h'.get? a = some o) : sqI t h' a l i := by
  obtain ⟨o, e, c, d⟩ := sqI_iff.mp x
  exact sqI_iff.mpr ⟨o, hk o e, c, d⟩
theorem sqI.lt {t : Bool} {h : Heap} {a l : Addr} {i : Nat} (x : sqI t h a l i) : a < h.objs.size := by
  obtain ⟨o, e, _⟩ := sqI_iff.mp x
  exact Heap.lt_size e
section
variable {prog : Program} {w : World} {A : Around} {E : Value → Shared → Prop} {s : Shared}
theorem next_item {t : Bool} {it l : Addr} {i : Nat} {xs : Array Value} {x : Value} {Q : Value → Shared → Prop} (hit : sqI t s.heap it l i) (hl : sqH t s.heap l xs) (hx : xs[i]? = some x)
    (hQ : ∀ h', sqI t h' it l (i + 1) → Heap.SameBut it s.heap h' → Q x { s with heap := h' }) : wpAny (model prog w) A (Builtin.SmallTypes.nextOf (.ref it)) Q E s := by
  cases t
  · exact wpAny_nextOf_list_item hit hl hx hQ
  · exact RZ.nextOf_tuple_item hit hl hx hQ
theorem next_end {t : Bool} {it l : Addr} {i : Nat} {xs : Array Value} {Q : Value → Shared → Prop} (hh : A.handled = none) (hit : sqI t s.heap it l i) (hl : sqH t s.heap l xs) (hx : xs[i]? = none)
    (hE : ∀ h' e, Heap.ExtBut it s.heap h' → (∃ o, h'.get? e = some o ∧ o.cls = .type "StopIteration") → E (.ref e) { s with heap := h' }) : wpAny (model prog w) A (Builtin.SmallTypes.nextOf (.ref it)) Q E s := by
  cases t
  · exact wpAny_nextOf_list_end hh hit hl hx hE
  · exact RZ.nextOf_tuple_end hh hit hl hx hE
/-- what a zip of two is, as it stands: the zip, its two iterators, its own pair -/
structure ZSt (t u : Bool) (h : Heap) (z TI TO i1 i2 l1 l2 : Addr) (k : Nat) (f : Value) : Prop where
  z : IsZip h z TI TO f
  TI : IsPair h TI (.ref i1) (.ref i2)
  TO : ∃ a b, IsPair h TO a b
  i1 : sqI t h i1 l1 k
  i2 : sqI u h i2 l2 k
variable {t u : Bool} {z TI TO i1 i2 l1 l2 : Addr} {k : Nat} {xs ys : Array Value} {x y : Value}
theorem mz_item {Q : Value → Shared → Prop} (D : ZipApart z TI TO i1 i2 l1 l2) (Z : ZSt t u s.heap z TI TO i1 i2 l1 l2 k .none) (hl1 : sqH t s.heap l1 xs) (hl2 : sqH u s.heap l2 ys) (hx : xs[k]? = some x) (hy : ys[k]? = some y)
    (hQ : ∀ h', ZSt t u h' z TI TO i1 i2 l1 l2 (k + 1) (rawInt s.heap.objs.size) → IsPair h' s.heap.objs.size x y → 
      (∀ c o, c ≠ z → c ≠ TO → c ≠ i1 → c ≠ i2 → s.heap.get? c = some o → h'.get? c = some o) → Q (.ref s.heap.objs.size) { s with heap := h' }) :
    wpAny (model prog w) A (Builtin.«zip.__next__» ⟨[.ref z], []⟩) (fun fin s' => ∃ v, fin = .done (.ret v) ∧ Q v s') E s := by
  obtain ⟨hz, hTI, ⟨a, b, hTO⟩, h1, h2⟩ := Z
  show wpAny _ _ (field (.ref z) 2 >>= _) _ _ _
  refine wpAny_bind (wpAny_field hz rfl (x := .bool false) rfl ?_)
  show wpAny _ _ (field (.ref z) 3 >>= _) _ _ _
  refine wpAny_bind (wpAny_field hz rfl (x := .ref TI) rfl ?_)
  refine wpAny_bind (wpAny_seqItems hTI rfl ?_)
  show wpAny _ _ (Builtin.SmallTypes.ownedTupleIsFree (.ref z) >>= _) _ _ _
  refine wpAny_bind ?_
  unfold Builtin.SmallTypes.ownedTupleIsFree
  refine wpAny_bind (wpAny_field hz rfl (x := .none) rfl (wpAny_pure ?_))
  simp only [if_true]
  refine wpAny_bind (wpAny_rule ?_)
  refine wpAny_bind (wpAny_field hz rfl (x := .ref TO) rfl ?_)
  refine wpAny_bind (wpAny_setField_rec hz (by simp) fun hA zA sA => ?_)
  replace zA : IsZip hA z TI TO .ellipsis := zA
  refine wpAny_bind ?_
  simp only [List.zipIdx_cons, List.zipIdx_nil, List.forIn_cons, List.forIn_nil]
  refine wpAny_bind (wpAny_bind (wpAny_onRaise ?_))
  show wpAny _ _ (Builtin.SmallTypes.nextOf (.ref i1) >>= _) _ _ _
  refine wpAny_bind (next_item (h1.ext sA.extBut D.i1z) (hl1.ext sA.extBut D.l1z) hx fun hB n1 sB => wpAny_pure ?_)
  have oB : IsPair hB TO a b := sB.extBut _ _ D.TOi1 (sA.extBut _ _ D.TOz hTO)
  refine wpAny_bind (wpAny_seqItems oB rfl ?_)
  refine wpAny_bind (wpAny_updateSeq_pair oB fun hC oC sC => ?_)
  replace oC : IsPair hC TO x b := oC
  refine wpAny_bind (wpAny_letGo (wpAny_pure ?_))
  refine wpAny_bind (wpAny_bind (wpAny_onRaise ?_))
  show wpAny _ _ (Builtin.SmallTypes.nextOf (.ref i2) >>= _) _ _ _
  refine wpAny_bind (next_item (((h2.ext sA.extBut D.i2z).ext sB.extBut D.i12.symm).ext sC.extBut D.TOi2.symm) (((hl2.ext sA.extBut D.l2z).ext sB.extBut D.l2i1).ext sC.extBut D.l2TO) hy fun hD n2 sD => wpAny_pure ?_)
  have oD : IsPair hD TO x b := sD.extBut _ _ D.TOi2 oC
  refine wpAny_bind (wpAny_seqItems oD rfl ?_)
  refine wpAny_bind (wpAny_updateSeq_pair oD fun hE' oE sE => ?_)
  replace oE : IsPair hE' TO x y := oE
  refine wpAny_bind (wpAny_letGo (wpAny_pure (wpAny_pure ?_)))
  refine wpAny_bind (wpAny_seqItems oE rfl ?_)
  refine wpAny_bind (wpAny_newTuple ?_)
  have hsz : hE'.objs.size = s.heap.objs.size := by rw [sE.1, sD.1, sC.1, sB.1, sA.1]
  have zE : IsZip hE' z TI TO .ellipsis := sE.extBut _ _ D.TOz.symm (sD.extBut _ _ D.i2z.symm (sC.extBut _ _ D.TOz.symm (sB.extBut _ _ D.i1z.symm zA)))
  have kE : ∀ c o, c ≠ z → c ≠ TO → c ≠ i1 → c ≠ i2 → s.heap.get? c = some o → hE'.get? c = some o := fun c o c1 c2 c3 c4 e =>
    sE.extBut _ _ c2 (sD.extBut _ _ c4 (sC.extBut _ _ c2 (sB.extBut _ _ c3 (sA.extBut _ _ c1 e))))
  have n1' := ((n1.ext sC.extBut D.TOi1.symm).ext sD.extBut D.i12).ext sE.extBut D.TOi1.symm
  have n2' := n2.ext sE.extBut D.TOi2.symm
  have zlt : z < hE'.objs.size := Heap.lt_size zE
  show wpAny _ _ (Builtin.SmallTypes.ownedTupleHandOut (.ref z) (.ref hE'.objs.size) >>= _) _ _ _
  refine wpAny_bind ?_
  unfold Builtin.SmallTypes.ownedTupleHandOut
  have zF : IsZip (hE'.push { cls := .type "tuple", data := .seq #[x, y] }) z TI TO .ellipsis := Heap.get?_push_of_some _ zE
  refine wpAny_bind (wpAny_setField_rec zF (by simp) fun hG zG sG => ?_)
  replace zG : IsZip hG z TI TO (rawInt hE'.objs.size) := zG
  refine wpAny_setField_rec zG (by simp) fun hH zH sH => ?_
  replace zH : IsZip hH z TI TO (rawInt hE'.objs.size) := zH
  have up : ∀ c o, c ≠ z → hE'.get? c = some o → hH.get? c = some o := fun c o c1 e => sH.extBut _ _ c1 (sG.extBut _ _ c1 (Heap.get?_push_of_some _ e))
  have tH : IsPair hH hE'.objs.size x y := sH.extBut _ _ (Nat.ne_of_gt zlt) (sG.extBut _ _ (Nat.ne_of_gt zlt) (Heap.get?_push_size _ rfl))
  rw [hsz] at zH tH
  refine wpAny_pure ⟨_, rfl, ?_⟩
  show Q (.ref hE'.objs.size) _
  rw [hsz]
  exact hQ hH ⟨zH, up _ _ D.TIz (kE _ _ D.TIz D.TITO D.TIi1 D.TIi2 hTI), ⟨_, _, up _ _ D.TOz oE⟩, n1'.at fun o e => up _ o D.i1z e, n2'.at fun o e => up _ o D.i2z e⟩ tH fun c o c1 c2 c3 c4 e => up c o c1 (kE c o c1 c2 c3 c4 e)
theorem mz_end {Q : PySem.Fin → Shared → Prop} (hh : A.handled = none) (D : ZipApart z TI TO i1 i2 l1 l2) (Z : ZSt t u s.heap z TI TO i1 i2 l1 l2 k .none) (hl1 : sqH t s.heap l1 xs) (hl2 : sqH u s.heap l2 ys) (hend : xs[k]? = none ∨ ys[k]? = none)
    (hE : ∀ h' e, (∀ c o, c ≠ z → c ≠ TO → c ≠ i1 → c ≠ i2 → s.heap.get? c = some o → h'.get? c = some o) → (∃ o, h'.get? e = some o ∧ o.cls = .type "StopIteration") → E (.ref e) { s with heap := h' }) :
    wpAny (model prog w) A (Builtin.«zip.__next__» ⟨[.ref z], []⟩) Q E s := by
  obtain ⟨hz, hTI, ⟨a, b, hTO⟩, h1, h2⟩ := Z
  show wpAny _ _ (field (.ref z) 2 >>= _) _ _ _
  refine wpAny_bind (wpAny_field hz rfl (x := .bool false) rfl ?_)
  show wpAny _ _ (field (.ref z) 3 >>= _) _ _ _
  refine wpAny_bind (wpAny_field hz rfl (x := .ref TI) rfl ?_)
  refine wpAny_bind (wpAny_seqItems hTI rfl ?_)
  show wpAny _ _ (Builtin.SmallTypes.ownedTupleIsFree (.ref z) >>= _) _ _ _
  refine wpAny_bind ?_
  unfold Builtin.SmallTypes.ownedTupleIsFree
  refine wpAny_bind (wpAny_field hz rfl (x := .none) rfl (wpAny_pure ?_))
  simp only [if_true]
  refine wpAny_bind (wpAny_rule ?_)
  refine wpAny_bind (wpAny_field hz rfl (x := .ref TO) rfl ?_)
  refine wpAny_bind (wpAny_setField_rec hz (by simp) fun hA zA sA => ?_)
  replace zA : IsZip hA z TI TO .ellipsis := zA
  refine wpAny_bind ?_
  simp only [List.zipIdx_cons, List.zipIdx_nil, List.forIn_cons, List.forIn_nil]
  refine wpAny_bind (wpAny_bind (wpAny_onRaise ?_))
  show wpAny _ _ (Builtin.SmallTypes.nextOf (.ref i1) >>= _) _ _ _
  have stop : ∀ {h' : Heap} {e : Addr}, IsZip h' z TI TO .ellipsis → (∃ o, h'.get? e = some o ∧ o.cls = .type "StopIteration") → e ≠ z := fun q ⟨o, e1, e2⟩ r => by
    subst r; rw [q] at e1; cases e1; simp at e2
  cases hx : xs[k]? with
  | none =>
    refine wpAny_bind (next_end hh (h1.ext sA.extBut D.i1z) (hl1.ext sA.extBut D.l1z) hx fun hB e sB he => ?_)
    have zB : IsZip hB z TI TO .ellipsis := sB _ _ D.i1z.symm zA
    have ne := stop zB he
    obtain ⟨o, e1, e2⟩ := he
    refine wpAny_setField_rec zB (by simp) fun hC _ sC => hE hC e (fun c o c1 _ c3 _ q => sC.extBut _ _ c1 (sB _ _ c3 (sA.extBut _ _ c1 q))) ⟨o, sC.extBut _ _ ne e1, e2⟩
  | some x =>
    have hy : ys[k]? = none := by rcases hend with h | h; rw [hx] at h; cases h; exact h
    refine wpAny_bind (next_item (h1.ext sA.extBut D.i1z) (hl1.ext sA.extBut D.l1z) hx fun hB n1 sB => wpAny_pure ?_)
    have oB : IsPair hB TO a b := sB.extBut _ _ D.TOi1 (sA.extBut _ _ D.TOz hTO)
    refine wpAny_bind (wpAny_seqItems oB rfl ?_)
    refine wpAny_bind (wpAny_updateSeq_pair oB fun hC oC sC => ?_)
    refine wpAny_bind (wpAny_letGo (wpAny_pure ?_))
    refine wpAny_bind (wpAny_bind (wpAny_onRaise ?_))
    show wpAny _ _ (Builtin.SmallTypes.nextOf (.ref i2) >>= _) _ _ _
    refine wpAny_bind (next_end hh (((h2.ext sA.extBut D.i2z).ext sB.extBut D.i12.symm).ext sC.extBut D.TOi2.symm) (((hl2.ext sA.extBut D.l2z).ext sB.extBut D.l2i1).ext sC.extBut D.l2TO) hy fun hD e sD he => ?_)
    have zD : IsZip hD z TI TO .ellipsis := sD _ _ D.i2z.symm (sC.extBut _ _ D.TOz.symm (sB.extBut _ _ D.i1z.symm zA))
    have ne := stop zD he
    obtain ⟨o, e1, e2⟩ := he
    refine wpAny_setField_rec zD (by simp) fun hF _ sF => hE hF e (fun c o c1 c2 c3 c4 q => sF.extBut _ _ c1 (sD _ _ c4 (sC.extBut _ _ c2 (sB.extBut _ _ c3 (sA.extBut _ _ c1 q))))) ⟨o, sF.extBut _ _ ne e1, e2⟩
theorem mz_next {Q : Option Value → Shared → Prop} (D : ZipApart z TI TO i1 i2 l1 l2) (Z : ZSt t u s.heap z TI TO i1 i2 l1 l2 k .none) (hl1 : sqH t s.heap l1 xs) (hl2 : sqH u s.heap l2 ys) (hx : xs[k]? = some x) (hy : ys[k]? = some y)
    (hQ : ∀ h', ZSt t u h' z TI TO i1 i2 l1 l2 (k + 1) (rawInt s.heap.objs.size) → IsPair h' s.heap.objs.size x y → 
      (∀ c o, c ≠ z → c ≠ TO → c ≠ i1 → c ≠ i2 → s.heap.get? c = some o → h'.get? c = some o) → Q (some (.ref s.heap.objs.size)) { s with heap := h' }) :
    wpAny (model prog w) A (pyNext (.ref z)) Q E s := by
  have hT : s.TypeIs (.ref z) "zip" := ⟨_, Z.z, rfl⟩
  unfold pyNext
  exact wpAny_bind (wpAny_attempt (wpAny_callSpecial?_slot (name := Str.ofString "__next__") hT F.slot_zip_next (wpAny_call_entry F.slot_zip_next hT F.entry_zip_next (mz_item D Z hl1 hl2 hx hy fun h' a1 a2 a3 => wpAny_pure (hQ h' a1 a2 a3)) (F.args_zip_next_1 _))))
theorem mz_stop {Q : Option Value → Shared → Prop} (hh : A.handled = none) (D : ZipApart z TI TO i1 i2 l1 l2) (Z : ZSt t u s.heap z TI TO i1 i2 l1 l2 k .none) (hl1 : sqH t s.heap l1 xs) (hl2 : sqH u s.heap l2 ys) (hend : xs[k]? = none ∨ ys[k]? = none)
    (hQ : ∀ h', (∀ c o, c ≠ z → c ≠ TO → c ≠ i1 → c ≠ i2 → s.heap.get? c = some o → h'.get? c = some o) → Q none { s with heap := h' }) : wpAny (model prog w) A (pyNext (.ref z)) Q E s := by
  have hT : s.TypeIs (.ref z) "zip" := ⟨_, Z.z, rfl⟩
  unfold pyNext
  refine wpAny_bind (wpAny_attempt (wpAny_callSpecial?_slot (name := Str.ofString "__next__") hT F.slot_zip_next (wpAny_call_entry F.slot_zip_next hT F.entry_zip_next (mz_end hh D Z hl1 hl2 hend fun h' e hk he => ?_) (F.args_zip_next_1 _))))
  obtain ⟨o, ho, hc⟩ := he
  refine wpAny_bind (wpAny_isInstance (T := "StopIteration") (b := true) ⟨o, ho, hc⟩ isSubtype_stop ?_)
  exact wpAny_pure (hQ _ hk)
end
/-! ### a new zip -/
abbrev mzA (t : Bool) (h : Heap) (l : Addr) : Heap := h.push { cls := .type (itC t), data := .fields #[.ref l, .int 0 0] }
abbrev mzB (t u : Bool) (h : Heap) (l m : Addr) : Heap := (mzA t h l).push { cls := .type (itC u), data := .fields #[.ref m, .int 0 0] }
abbrev mzC (t u : Bool) (h : Heap) (l m : Addr) : Heap := (mzB t u h l m).push { cls := .type "tuple", data := .seq #[.ref h.objs.size, .ref (mzA t h l).objs.size] }
abbrev mzD (t u : Bool) (h : Heap) (l m : Addr) : Heap := (mzC t u h l m).push { cls := .type "tuple", data := .seq #[.none, .none] }
abbrev mzE (t u : Bool) (h : Heap) (l m : Addr) : Heap := (mzD t u h l m).push { cls := .type "zip", data := .fields #[.none, .bool false, .bool false, .ref (mzB t u h l m).objs.size, .ref (mzC t u h l m).objs.size] }
theorem mz_new (t u : Bool) (l m : Addr) (xs ys : Array Value) :
    Meets (Builtin.«zip.__new__» ⟨[.type "zip", .ref l, .ref m], []⟩) (fun _ R s => sqH t s.heap l xs ∧ sqH u s.heap m ys ∧ R (.ok (.ret (.ref (mzD t u s.heap l m).objs.size))) { s with heap := mzE t u s.heap l m }) :=
  .of_wp fun prog w A R s h => by
    obtain ⟨hp, g, d, tk, os⟩ := s; obtain ⟨hl1, hl2, h⟩ := h
    have hsub := sub_zip
    have hL2 := sqH.push hl2 { cls := .type (itC t), data := .fields #[.ref l, .int 0 0] }
    cases t <;> cases u
    · have hL1 : Heap.IsList (Shared.heap ⟨hp, g, d, tk, os⟩) l xs := hl1
      have hL2 : Heap.IsList (Shared.heap ⟨hp.push { cls := .type "list_iterator", data := .fields #[.ref l, .int 0 0] }, g, d, tk, os⟩) m ys := hL2
      wp_walk using wpAny_pyIter_list hL1, wpAny_pyIter_list hL2
      exact ⟨_, rfl, h⟩
    · have hL1 : Heap.IsList (Shared.heap ⟨hp, g, d, tk, os⟩) l xs := hl1
      have hL2 : Heap.IsTuple (Shared.heap ⟨hp.push { cls := .type "list_iterator", data := .fields #[.ref l, .int 0 0] }, g, d, tk, os⟩) m ys := hL2
      wp_walk using wpAny_pyIter_list hL1, wpAny_pyIter_tuple hL2
      exact ⟨_, rfl, h⟩
    · have hL1 : Heap.IsTuple (Shared.heap ⟨hp, g, d, tk, os⟩) l xs := hl1
      have hL2 : Heap.IsList (Shared.heap ⟨hp.push { cls := .type "tuple_iterator", data := .fields #[.ref l, .int 0 0] }, g, d, tk, os⟩) m ys := hL2
      wp_walk using wpAny_pyIter_tuple hL1, wpAny_pyIter_list hL2
      exact ⟨_, rfl, h⟩
    · have hL1 : Heap.IsTuple (Shared.heap ⟨hp, g, d, tk, os⟩) l xs := hl1
      have hL2 : Heap.IsTuple (Shared.heap ⟨hp.push { cls := .type "tuple_iterator", data := .fields #[.ref l, .int 0 0] }, g, d, tk, os⟩) m ys := hL2
      wp_walk using wpAny_pyIter_tuple hL1, wpAny_pyIter_tuple hL2
      exact ⟨_, rfl, h⟩
theorem mz_call {prog : Program} {w : World} {A : Around} {E : Value → Shared → Prop} {s : Shared} {t u : Bool} {l m : Addr} {xs ys : Array Value} {Q : Value → Shared → Prop} (hl1 : sqH t s.heap l xs) (hl2 : sqH u s.heap m ys)
    (h : ∀ h', ZSt t u h' (s.heap.objs.size + 4) (s.heap.objs.size + 2) (s.heap.objs.size + 3) s.heap.objs.size (s.heap.objs.size + 1) l m 0 .none → (∀ c o, s.heap.get? c = some o → h'.get? c = some o) → Q (.ref (s.heap.objs.size + 4)) { s with heap := h' }) :
    wpAny (model prog w) A (call (.type "zip") [.ref l, .ref m]) Q E s := by
  refine callType_new F.called_zip (by decide) (F.typeCall_zip_2 _ _) (F.newCall_zip_2 _ _) (fun obj => F.args_object_init_3 obj _ _) F.entry_zip_new (mz_new t u l m xs ys) ⟨hl1, hl2, ?_⟩
  have z1 : (mzA t s.heap l).objs.size = s.heap.objs.size + 1 := Heap.size_push ..
  have z2 : (mzB t u s.heap l m).objs.size = s.heap.objs.size + 2 := by rw [Heap.size_push, z1]
  have z3 : (mzC t u s.heap l m).objs.size = s.heap.objs.size + 3 := by rw [Heap.size_push, z2]
  have z4 : (mzD t u s.heap l m).objs.size = s.heap.objs.size + 4 := by rw [Heap.size_push, z3]
  have g5 : (mzE t u s.heap l m).get? (mzD t u s.heap l m).objs.size = some _ := Heap.get?_push_size _ rfl
  have g4 : (mzE t u s.heap l m).get? (mzC t u s.heap l m).objs.size = some _ := Heap.get?_push_of_some _ (Heap.get?_push_size _ rfl)
  have g3 : (mzE t u s.heap l m).get? (mzB t u s.heap l m).objs.size = some _ := Heap.get?_push_of_some _ (Heap.get?_push_of_some _ (Heap.get?_push_size _ rfl))
  have g2 : (mzE t u s.heap l m).get? (mzA t s.heap l).objs.size = some _ := Heap.get?_push_of_some _ (Heap.get?_push_of_some _ (Heap.get?_push_of_some _ (Heap.get?_push_size _ rfl)))
  have g1 : (mzE t u s.heap l m).get? s.heap.objs.size = some _ := Heap.get?_push_of_some _ (Heap.get?_push_of_some _ (Heap.get?_push_of_some _ (Heap.get?_push_of_some _ (Heap.get?_push_size _ rfl))))
  show _ ∧ _
  rw [z2, z3, z4] at g5
  rw [z1, z2] at g3
  rw [z3] at g4
  rw [z1] at g2
  rw [z4]
  exact ⟨⟨_, g5, rfl⟩, h _ ⟨g5, g3, ⟨_, _, g4⟩, sqI_iff.mpr ⟨_, g1, rfl, rfl⟩, sqI_iff.mpr ⟨_, g2, rfl, rfl⟩⟩ fun c o q =>
    Heap.get?_push_of_some _ (Heap.get?_push_of_some _ (Heap.get?_push_of_some _ (Heap.get?_push_of_some _ (Heap.get?_push_of_some _ q))))⟩
/-! ### zip as a walk -/
section
open PySem.Spec PyProof.Rows L2
def SqB (K : PySem.W.Frag) (t : Bool) (H : Hp) (a : Addr) (xs : List V) : Prop := match t with
  | true => SqT K H a xs
  | false => SqL K H a xs
theorem ex_sq {K : PySem.W.Frag} {t : Bool} {H H' : Hp} {a : Addr} {xs : List V} (e : Ex H H') (h : SqB K t H a xs) : SqB K t H' a xs := by
  cases t
  · exact ex_l e h
  · exact ex_t e h
theorem SqB.is {X : Cx} {pins : List (Addr × Obj)} {σ : L2.St} {H : Hp} {s : Shared} {t : Bool} {a : Addr} {xs : List V} (I : Inv X pins σ H s) (h : SqB X.K t H a xs) : ∃ its : List Value, Vals xs its ∧ sqH t s.heap a its.toArray := by
  cases t
  · obtain ⟨its, r, p, _⟩ := I.list h
    exact ⟨its, r, p.isList⟩
  · obtain ⟨its, r, p, _⟩ := I.tuple h
    exact ⟨its, r, p⟩
theorem SqB.inj {X : Cx} {pins : List (Addr × Obj)} {σ : L2.St} {H : Hp} {s : Shared} {t : Bool} {a : Addr} {xs ys : List V} (I : Inv X pins σ H s) (h : SqB X.K t H a xs) (h' : SqB X.K t H a ys) : xs = ys := by
  cases t
  · exact I.list_inj h h'
  · exact I.tuple_inj h h'
/-- the two as they stand at each turn, the items in new pairs -/
def ItzB (K : PySem.W.Frag) (t u : Bool) (a b : Addr) : It :=
  ⟨fun i H => ∃ (xs ys : List V) (x y : V), SqB K t H a xs ∧ SqB K u H b ys ∧ xs[i]? = some x ∧ ys[i]? = some y,
    fun i H v H' => ∃ T x y, v = .ref T ∧ H T = none ∧ H' = upd H T (.tup [x, y]) ∧ (∀ xs, SqB K t H a xs → xs[i]? = some x) ∧ ∀ ys, SqB K u H b ys → ys[i]? = some y,
    fun i H => ∃ xs ys : List V, SqB K t H a xs ∧ SqB K u H b ys ∧ (xs.length ≤ i ∨ ys.length ≤ i)⟩
theorem turn_zipB {P : Program} {w : World} {K : PySem.W.Frag} {elts : List Expr} {kk : Nat} {tpos : Pos} {t u : Bool} {a b z TI TO i1 i2 : Addr} (D : ZipApart z TI TO i1 i2 a b) :
    Turn P w K (.Tuple elts kk tpos) (ItzB K t u a b) [z, TI, TO, i1, i2] z (fun i h => ZSt t u h z TI TO i1 i2 a b i .none) where
  mem := by simp
  obj := fun i h st c hc => by
    obtain ⟨hz, hTI, ⟨x, y, hTO⟩, h1, h2⟩ := st
    obtain ⟨o1, e1, _, d1⟩ := sqI_iff.mp h1
    obtain ⟨o2, e2, _, d2⟩ := sqI_iff.mp h2
    have e' : c = z ∨ c = TI ∨ c = TO ∨ c = i1 ∨ c = i2 := by simpa using hc
    rcases e' with rfl | rfl | rfl | rfl | rfl
    · exact ⟨_, hz, fun v q => nomatch q⟩
    · exact ⟨_, hTI, fun v q => nomatch q⟩
    · exact ⟨_, hTO, fun v q => nomatch q⟩
    · exact ⟨o1, e1, fun v q => by rw [d1] at q; cases q⟩
    · exact ⟨o2, e2, fun v q => by rw [d2] at q; cases q⟩
  keep := fun i h h' st k => by
    obtain ⟨hz, hTI, ⟨x, y, hTO⟩, h1, h2⟩ := st
    exact ⟨k z (by simp) _ hz, k TI (by simp) _ hTI, ⟨x, y, k TO (by simp) _ hTO⟩, h1.at fun o q => k i1 (by simp) o q, h2.at fun o q => k i2 (by simp) o q⟩
  item := by
    intro X hP hw hK hc i pins s σ H E I hf st hg
    subst hP hw hK
    obtain ⟨xs, ys, x, y, hqx, hqy, hx, hy⟩ := hg
    obtain ⟨its, rv, p⟩ := hqx.is I
    obtain ⟨its2, rv2, p2⟩ := hqy.is I
    obtain ⟨v, hv, ru⟩ := rv.get hx
    obtain ⟨v2, hv2, ru2⟩ := rv2.get hy
    have lz : z < s.heap.objs.size := Heap.lt_size st.z
    have lTI : TI < s.heap.objs.size := Heap.lt_size st.TI
    have lTO : TO < s.heap.objs.size := by obtain ⟨_, _, q⟩ := st.TO; exact Heap.lt_size q
    have l1 := st.i1.lt
    have l2 := st.i2.lt
    refine mz_next D st p p2 (x := v) (y := v2) (by simpa using hv) (by simpa using hv2) fun h' st' hT hk => ?_
    refine ⟨_, rfl, wpAny_letOwnedTupleGo_zip (s := { s with heap := h' }) st'.z fun h'' z'' sb => ?_⟩
    have hT2 : h''.get? s.heap.objs.size = some { cls := .type "tuple", data := .seq #[v, v2] } := (sb.2 _ (Nat.ne_of_gt lz)).trans hT
    have new : ObjOk X.prog X.w (upd H s.heap.objs.size (.tup [x, y])) h'' s.heap.objs.size (.tup [x, y]) :=
      ⟨by show 2 ≤ sizeLine; decide, [v, v2], .cons ru (.cons ru2 .nil), ⟨_, hT2, rfl, _, rfl⟩⟩
    have I1 : Inv X pins σ (upd H s.heap.objs.size (.tup [x, y])) { s with heap := h'' } :=
      I.turnedNew (t' := s.toks) (ch := [z, TI, TO, i1, i2]) (fun c o hb q => (sb.2 c (fun q' => hb (by simp [q']))).trans (hk c o (fun q' => hb (by simp [q'])) (fun q' => hb (by simp [q'])) (fun q' => hb (by simp [q'])) (fun q' => hb (by simp [q'])) q)) hf (Nat.le_refl _) new
    obtain ⟨-, hTI, ⟨_, _, hTO⟩, h1', h2'⟩ := st'
    refine ⟨.ref s.heap.objs.size, _, I1, rfl, ⟨_, x, y, rfl, I.hok.fresh (Nat.le_refl _), rfl, fun l hl => by rw [hl.inj I hqx]; exact hx, fun l hl => by rw [hl.inj I hqy]; exact hy⟩, ⟨z'', (sb.2 _ D.TIz).trans hTI, ⟨_, _, (sb.2 _ D.TOz).trans hTO⟩, h1'.at fun o q => (sb.2 _ D.i1z).trans q, h2'.at fun o q => (sb.2 _ D.i2z).trans q⟩, fun c hcm => ?_⟩
    have hlt : c < s.heap.objs.size := by
      have e' : c = z ∨ c = TI ∨ c = TO ∨ c = i1 ∨ c = i2 := by simpa using hcm
      rcases e' with rfl | rfl | rfl | rfl | rfl <;> assumption
    rw [upd_ne (Nat.ne_of_lt hlt)]
    exact (hf c hcm).1
  done := by
    intro X hP hw hK hc i pins s σ H E I hf st hg
    subst hP hw hK
    obtain ⟨xs, ys, hqx, hqy, hend⟩ := hg
    obtain ⟨its, rv, p⟩ := hqx.is I
    obtain ⟨its2, rv2, p2⟩ := hqy.is I
    have l1 := rv.length
    have l2 := rv2.length
    have he : its.toArray[i]? = none ∨ its2.toArray[i]? = none := by
      rcases hend with q | q
      · exact .inl (by simp; omega)
      · exact .inr (by simp; omega)
    exact mz_stop (I.ok.hd hc) D st p p2 he fun h' hk => ⟨rfl, I.turnedL (t' := s.toks) (ch := [z, TI, TO, i1, i2]) (fun c o hb q =>
      hk c o (fun q' => hb (by simp [q'])) (fun q' => hb (by simp [q'])) (fun q' => hb (by simp [q'])) (fun q' => hb (by simp [q'])) q) hf⟩
  self := fun A i s Q E st h => wpAny_pyIter_zip st.z h
def iZipB (K : PySem.W.Frag) (ta : TA) : TI := fun σ H R => ta σ H fun vs H1 => ∃ t u a b xs ys, vs = [.ref a, .ref b] ∧ SqB K t H1 a xs ∧ SqB K u H1 b ys ∧ R (ItzB K t u a b) H1
theorem pi_zipB {X : Cx} {e e2 : Expr} {ta : TA} {p pos tpos : Pos} {elts : List Expr} {kk : Nat} (hg : Gl X "zip") (hm : X.mg "zip" = none) (ha : PA X [e, e2] ta)
    (hs : starEach [e, e2] X.env = (false, eval e X.env) :: starEach [e2] X.env := by rfl) (hpl : (backTo pos (starEach [e2] X.env)).any (·.1) = false := by rfl) :
    PI X (.Tuple elts kk tpos) (.Call (.Name "zip" p) [e, e2] [] pos) (iZipB X.K ta) := by
  refine ⟨fun pins s σ H R I h => ?_⟩
  refine Call_ (ld_blt I hg hm PyProof.Rows.boot_zip (PyProof.Rows.callWith_type1 (thn (ha.run pos pins s σ H _ I h) fun us s1 ⟨vs, H1, I1, r1, q1⟩ => ?_) hs hpl))
  obtain ⟨t, u, a, b, xs, ys, ex, hqx, hqy, q⟩ := q1
  subst ex
  cases r1 with
  | cons r rr =>
    cases rr with
    | cons r' rr =>
      cases rr
      cases r
      cases r'
      obtain ⟨its, rv, p1⟩ := hqx.is I1
      obtain ⟨its2, rv2, p2⟩ := hqy.is I1
      refine mz_call p1 p2 fun h' st hk => wpAny_pyIter_zip st.z ?_
      have I2 : Inv X pins σ H1 { s1 with heap := h' } := I1.kept (t' := s1.toks) hk
      refine ⟨s1.heap.objs.size + 4, [s1.heap.objs.size + 4, s1.heap.objs.size + 2, s1.heap.objs.size + 3, s1.heap.objs.size, s1.heap.objs.size + 1], _, _, H1, rfl, I2, turn_zipB (PySem.W.ktu_apart s1.heap.objs.size a b p1.lt p2.lt), st, fun c hcm => ?_, q⟩
      have hle : s1.heap.objs.size ≤ c := by
        have e' : c = s1.heap.objs.size + 4 ∨ c = s1.heap.objs.size + 2 ∨ c = s1.heap.objs.size + 3 ∨ c = s1.heap.objs.size ∨ c = s1.heap.objs.size + 1 := by simpa using hcm
        rcases e' with z | z | z | z | z <;> rw [z] <;> first | exact Nat.le_add_right _ _ | exact Nat.le_refl _
      exact I1.fpOk hle (I1.hok.fresh hle)
end
/-! ### zip of data -/
section
open PySem.Spec PyProof.Rows L2
variable {X : Cx} {W : WX} {K : PySem.W.Frag}
theorem yi_zipB {G : Hp} {t u : Bool} {p q : Addr} {xs ys : List V} {ds es : List D} (h1 : SqB K t G p xs) (r1 : RepL K G xs ds) (h2 : SqB K u G q ys) (r2 : RepL K G ys es) : YI K (ItzB K t u p q) G (List.zipWith (fun d e => D.tup [d, e]) ds es) where
  go := fun i d e F cs H s => by
    rw [List.getElem?_zipWith] at e
    cases e1 : ds[i]? with
    | none => rw [e1] at e; cases e
    | some x => cases e2 : es[i]? with
      | none => rw [e1, e2] at e; cases e
      | some y =>
        obtain ⟨v, a1, _⟩ := r1.get e1
        obtain ⟨v2, a2, _⟩ := r2.get e2
        exact ⟨xs, ys, v, v2, ex_sq (s.gr.trans pur_le) h1, ex_sq (s.gr.trans pur_le) h2, a1, a2⟩
  yld := fun i d e F cs H x H' s hy => by
    obtain ⟨T, v, v2, rfl, hT, rfl, k1, k2⟩ := hy
    rw [List.getElem?_zipWith] at e
    cases e1 : ds[i]? with
    | none => rw [e1] at e; cases e
    | some dx => cases e2 : es[i]? with
      | none => rw [e1, e2] at e; cases e
      | some dy =>
        rw [e1, e2] at e
        cases e
        obtain ⟨v', a1, b1⟩ := r1.get e1
        obtain ⟨u', a2, b2⟩ := r2.get e2
        have c1 := k1 xs (ex_sq (s.gr.trans pur_le) h1)
        have c2 := k2 ys (ex_sq (s.gr.trans pur_le) h2)
        rw [a1] at c1; rw [a2] at c2
        obtain rfl := Option.some.inj c1
        obtain rfl := Option.some.inj c2
        obtain ⟨s2, e3⟩ := s.new (o := .tup [_, _]) hT
        exact ⟨s2, .tup (SqT.of e3) (.cons (b1.mono (s.gr.trans s2.gr)) (.cons (b2.mono (s.gr.trans s2.gr)) .nil))⟩
  stop := fun F cs H s => by
    refine ⟨xs, ys, ex_sq (s.gr.trans pur_le) h1, ex_sq (s.gr.trans pur_le) h2, ?_⟩
    rw [List.length_zipWith, r1.length, r2.length]; omega
/-- the items of a list or a tuple -/
def itemsD : D → Option (List D)
  | .lst xs => some xs
  | .tup xs => some xs
  | _ => none
theorem rep_items {G : Hp} {v : V} {d : D} {xs : List D} (r : Rep K G v d) (e : itemsD d = some xs) : ∃ t a vs, v = .ref a ∧ SqB K t G a vs ∧ RepL K G vs xs := by
  cases d with
  | lst ys =>
    injection e with e; subst e
    cases r with
    | lst a b => exact ⟨false, _, _, rfl, a, b⟩
  | tup ys =>
    injection e with e; subst e
    cases r with
    | tup a b => exact ⟨true, _, _, rfl, a, b⟩
  | _ => cases e
def iZm (w : WA) : WI := fun ρ cs P Z => w ρ cs (fun ds cs1 => ∃ d e xs ys, ds = [d, e] ∧ itemsD d = some xs ∧ itemsD e = some ys ∧ P (List.zipWith (fun d e => D.tup [d, e]) xs ys) cs1) Z
theorem di_zipM {w : WA} {e e2 : Expr} {p pos tpos : Pos} {elts : List Expr} {kk : Nat} (hg : Gl X "zip") (hm : X.mg "zip" = none) (ha : DA X W [e, e2] w)
    (hs : starEach [e, e2] X.env = (false, eval e X.env) :: starEach [e2] X.env := by rfl) (hpl : (backTo pos (starEach [e2] X.env)).any (·.1) = false := by rfl) :
    DI X W (.Tuple elts kk tpos) (.Call (.Name "zip" p) [e, e2] [] pos) (iZm w) := PI.imp (pi_zipB hg hm ha hs hpl) fun σ H R hq => by
  obtain ⟨F, cs, ρ, P, Z, s, re, hw, pe, px⟩ := hq
  refine ⟨F, cs, ρ, _, Z, s, re, hw, fun H1 cs1 vs ds s1 r1 l1 h1 => ?_, px⟩
  obtain ⟨d, e, xs, ys, rfl, i1, i2, h⟩ := h1
  cases r1 with
  | cons r1 r2 =>
    cases r2 with
    | cons r2 r3 =>
      cases r3
      obtain ⟨t, a, us, rfl, q1, b1⟩ := rep_items r1 i1
      obtain ⟨u, b, us2, rfl, q2, b2⟩ := rep_items r2 i2
      exact ⟨t, u, _, _, _, _, rfl, ex_sq pur_le q1, ex_sq pur_le q2, pe H1 cs1 _ _ s1 (yi_zipB q1 b1 q2 b2) h⟩
theorem r_zipM {w : WA} {ρ : DL.Env} {cs : Cs} {P : List D → Cs → Prop} {Z : XZ} (h : w ρ cs (fun ds cs1 => ∃ d e xs ys, ds = [d, e] ∧ itemsD d = some xs ∧ itemsD e = some ys ∧ P (List.zipWith (fun d e => D.tup [d, e]) xs ys) cs1) Z) : iZm w ρ cs P Z := h
end
end DL

/-! DLPa: papers that refute a bound. -/
namespace DL
open PySem L2
def halfB (b : Bx) (ws : List Int) (p : Bool × Nat) (h : Bool) : Bx := if h then sndB b ws p.2 p.1 else fstB b ws p.2 p.1
def halfW (ws : List Int) (k : Nat) (h : Bool) : List Int := if h then ws.drop k else ws.take k
def bitD (h : Bool) : D := .int (if h then 1 else 0)
def spotD (p : Bool × Nat) : D := .tup [sideD p.1, .int (p.2 : Int)]
/-- a paper's pair: which half, and its paper -/
def PairOk (S : Bool → D → Prop) (x : D) : Prop := ∃ h e, x = .tup [bitD h, e] ∧ S h e
/-- the paper stands -/
def St (r : Rat) : Nat → Bx → List Int → D → Prop
  | 0, _, _, _ => False
  | n + 1, b, ws, d => (ws.length = 1 ∧ d = .tup [] ∧ r ≤ shapeR b.w b.h) ∨ (1 < ws.length ∧ ∃ xs, d = .tup xs ∧ xs.length = (spotL ws.length).length ∧ ∀ (i : Nat) (s : Bool × Nat) (x : D), (spotL ws.length)[i]? = some s → xs[i]? = some x → PairOk (fun h e => St r n (halfB b ws s h) (halfW ws s.2 h) e) x)
theorem spotL_len (n : Nat) : (spotL n).length = (n - 1) + (n - 1) := by
  unfold spotL
  rw [List.length_append, List.length_map, List.length_map, List.length_range]
theorem spot_at {n i j : Nat} {dn : Bool} (hd : sdN dn = i) (hj : j < n - 1) : (spotL n)[i * (n - 1) + j]? = some (dn, 1 + j) := by
  unfold spotL
  cases dn with
  | true =>
    have : i = 0 := hd.symm
    subst this
    rw [Nat.zero_mul, Nat.zero_add, List.getElem?_append_left (by rw [List.length_map, List.length_range]; exact hj), List.getElem?_map, List.getElem?_range hj, Nat.add_comm]
    rfl
  | false =>
    have : i = 1 := hd.symm
    subst this
    rw [Nat.one_mul, List.getElem?_append_right (by rw [List.length_map, List.length_range]; omega), List.length_map, List.length_range, Nat.add_sub_cancel_left, List.getElem?_map, List.getElem?_range hj, Nat.add_comm]
    rfl
theorem bit_inj {h k : Bool} (e : bitD h = bitD k) : h = k := by
  cases h <;> cases k <;> first | rfl | (injection e with e; exact absurd e (by decide))
theorem St_le {r : Rat} : ∀ (n : Nat) (b : Bx) (ws : List Int) (d : D), St r n b ws d → ∀ t : Tr, t.n = ws.length → r ≤ tw t b ws
  | 0, _, _, _, h, _, _ => h.elim
  | n + 1, b, ws, d, h, t, ht => by
    rcases h with ⟨h1, _, h2⟩ | ⟨h1, xs, _, hl, h2⟩
    · cases t with
      | lf => exact h2
      | nd dn x y =>
        have hx := x.n_pos
        have hy := y.n_pos
        have : x.n + y.n = ws.length := ht
        omega
    · cases t with
      | lf => have : 1 = ws.length := ht; omega
      | nd dn x y =>
        have hx := x.n_pos
        have hy := y.n_pos
        have ht' : x.n + y.n = ws.length := ht
        obtain ⟨i, hi⟩ := List.mem_iff_getElem?.mp (spot_mem (p := (dn, x.n)) |>.mpr ⟨hx, by show x.n < ws.length; omega⟩)
        have hil : i < xs.length := by rw [hl]; exact (List.getElem?_eq_some_iff.mp hi).1
        obtain ⟨hf, e, _, hs⟩ := h2 i _ _ hi (List.getElem?_eq_getElem hil)
        have ex := mxR_le.mp (Rat.le_refl (a := tw (.nd dn x y) b ws))
        cases hf with
        | false => exact Rat.le_trans (St_le n _ _ _ hs x (by show x.n = (ws.take x.n).length; rw [List.length_take]; omega)) ex.1
        | true => exact Rat.le_trans (St_le n _ _ _ hs y (by show y.n = (ws.drop x.n).length; rw [List.length_drop]; omega)) ex.2
theorem halfW_len {ws : List Int} {k : Nat} (h0 : 1 ≤ k) (h1 : k < ws.length) (h : Bool) : 1 ≤ (halfW ws k h).length ∧ (halfW ws k h).length < ws.length := by
  cases h
  · show 1 ≤ (ws.take k).length ∧ (ws.take k).length < ws.length
    rw [List.length_take]; omega
  · show 1 ≤ (ws.drop k).length ∧ (ws.drop k).length < ws.length
    rw [List.length_drop]; omega
theorem St_pl {r : Rat} : ∀ (n : Nat) (b : Bx) (ws : List Int) (d : D), ws.length ≤ 12 → St r n b ws d → plD (2 * n) d = true
  | 0, _, _, _, _, h => h.elim
  | n + 1, b, ws, d, hw, h => by
    rcases h with ⟨h1, rfl, h2⟩ | ⟨h1, xs, rfl, hl, h2⟩
    · exact plD_tI rfl (by decide)
    · rw [spotL_len] at hl
      refine plD_tI (n := 2 * n + 1) (plL_of fun x hx => ?_) (by omega)
      obtain ⟨i, hi⟩ := List.mem_iff_getElem?.mp hx
      have hil : i < (spotL ws.length).length := by rw [spotL_len, ← hl]; exact (List.getElem?_eq_some_iff.mp hi).1
      have hm := spot_mem.mp (List.getElem_mem hil)
      obtain ⟨hf, e, rfl, hs⟩ := h2 i _ x (List.getElem?_eq_getElem hil) hi
      have := halfW_len hm.1 hm.2 hf
      refine plD_tI (n := 2 * n) ?_ (by show 2 ≤ 100000; decide)
      simp only [plL, Bool.and_eq_true]
      exact ⟨by unfold bitD; cases (2 * n) <;> rfl, St_pl n _ _ _ (by omega) hs, trivial⟩
theorem St_tup {r : Rat} {n : Nat} {b : Bx} {ws : List Int} {d : D} (h : St r n b ws d) : ∃ xs, d = .tup xs := by
  cases n with
  | zero => exact h.elim
  | succ n =>
    rcases h with ⟨_, e, _⟩ | ⟨_, xs, e, _⟩
    · exact ⟨_, e⟩
    · exact ⟨xs, e⟩
open Classical in
noncomputable def stB (r : Rat) (n : Nat) (b : Bx) (ws : List Int) (d : D) : Bool := decide (St r n b ws d)
theorem stB_iff {r : Rat} {n : Nat} {b : Bx} {ws : List Int} {d : D} : stB r n b ws d = true ↔ St r n b ws d := by unfold stB; simp only [decide_eq_true_eq]
theorem stB_no {r : Rat} {n : Nat} {b : Bx} {ws : List Int} {d : D} (h : ¬ St r n b ws d) : stB r n b ws d = false := Bool.eq_false_iff.mpr fun z => h (stB_iff.mp z)
/-- so far the pairs stand -/
def Up (r : Rat) (n : Nat) (b : Bx) (ws : List Int) (m : Nat) (xs : List D) : Prop := ∀ (i : Nat) (s : Bool × Nat) (x : D), i < m → (spotL ws.length)[i]? = some s → xs[i]? = some x → PairOk (fun h e => St r n (halfB b ws s h) (halfW ws s.2 h) e) x
theorem up_zero {r : Rat} {n : Nat} {b : Bx} {ws : List Int} {xs : List D} : Up r n b ws 0 xs := fun i s x h => absurd h (Nat.not_lt_zero _)
theorem up_step {r : Rat} {n : Nat} {b : Bx} {ws : List Int} {m : Nat} {xs : List D} {s : Bool × Nat} {x : D} (h : Up r n b ws m xs) (hs : (spotL ws.length)[m]? = some s) (hx : xs[m]? = some x) (hp : PairOk (fun h e => St r n (halfB b ws s h) (halfW ws s.2 h) e) x) : Up r n b ws (m + 1) xs := fun i s' x' hi h1 h2 => by
  by_cases e : i = m
  · subst e
    rw [hs] at h1; rw [hx] at h2
    cases h1; cases h2
    exact hp
  · exact h i s' x' (by omega) h1 h2
theorem up_snoc {r : Rat} {n : Nat} {b : Bx} {ws : List Int} {m : Nat} {xs : List D} {s : Bool × Nat} {x : D} (hl : xs.length = m) (h : Up r n b ws m xs) (hs : (spotL ws.length)[m]? = some s) (hp : PairOk (fun h e => St r n (halfB b ws s h) (halfW ws s.2 h) e) x) : Up r n b ws (m + 1) (xs ++ [x]) := by
  refine up_step (m := m) (fun i s' x' hi h1 h2 => h i s' x' hi h1 ?_) hs ?_ hp
  · rwa [List.getElem?_append_left (by omega)] at h2
  · rw [List.getElem?_append_right (by omega), hl, Nat.sub_self]; rfl
theorem up_end {r : Rat} {n : Nat} {b : Bx} {ws : List Int} {m : Nat} {xs : List D} (h1 : 1 < ws.length) (hl : xs.length = (spotL ws.length).length) (hm : (spotL ws.length).length ≤ m) (h : Up r n b ws m xs) : St r (n + 1) b ws (.tup xs) :=
  .inr ⟨h1, xs, rfl, hl, fun i s x a c => h i s x (Nat.lt_of_lt_of_le (List.getElem?_eq_some_iff.mp a).1 hm) a c⟩
theorem st_one {r : Rat} {n : Nat} {b : Bx} {ws : List Int} {d : D} (h : ws.length = 1) : St r (n + 1) b ws d ↔ d = .tup [] ∧ r ≤ shapeR b.w b.h := by
  constructor
  · rintro (⟨_, a, c⟩ | ⟨a, _⟩)
    · exact ⟨a, c⟩
    · omega
  · rintro ⟨a, c⟩
    exact .inl ⟨h, a, c⟩
theorem st_many {r : Rat} {n : Nat} {b : Bx} {ws : List Int} {d : D} (h : 1 < ws.length) (hs : St r (n + 1) b ws d) : ∃ xs, d = .tup xs ∧ xs.length = (spotL ws.length).length ∧ ∀ (i : Nat) (s : Bool × Nat) (x : D), (spotL ws.length)[i]? = some s → xs[i]? = some x → PairOk (fun h e => St r n (halfB b ws s h) (halfW ws s.2 h) e) x := by
  rcases hs with ⟨a, _⟩ | ⟨_, q⟩
  · omega
  · exact q
theorem any_bits (i : Int) : ([D.int 0, D.int 1].any fun z => eqD z (.int i)) = true ↔ ∃ h, D.int i = bitD h := by
  simp only [List.any_cons, List.any_nil, Bool.or_false, Bool.or_eq_true, eqD, beq_iff_eq]
  constructor
  · rintro (h | h)
    · exact ⟨false, by rw [← h]; rfl⟩
    · exact ⟨true, by rw [← h]; rfl⟩
  · rintro ⟨h, e⟩
    cases h
    · injection e with e; exact .inl e.symm
    · injection e with e; exact .inr e.symm
theorem r_ninBits {i : Int} {cs : Cs} {P : DP} (ht : ∀ h, D.int i = bitD h → P (.bl false) cs) (hf : (∀ h, D.int i ≠ bitD h) → P (.bl true) cs) : oNotInQ (.int i) (.tup [.int 0, .int 1]) cs P := by
  refine r_notinQ rfl rfl ?_
  by_cases e : ∃ h, D.int i = bitD h
  · rw [(any_bits i).mpr e]; exact ht _ e.choose_spec
  · rw [show ([D.int 0, D.int 1].any fun z => eqD z (.int i)) = false from Bool.eq_false_iff.mpr fun z => e ((any_bits i).mp z)]; exact hf fun h q => e ⟨h, q⟩
theorem spots_flat (n : Nat) : ([true, false].flatMap fun dn => (List.range (n - 1)).map fun i => D.tup [sideD dn, .int ((1 + i : Nat) : Int)]) = (spotL n).map spotD := by
  unfold spotL
  rw [List.map_append, List.map_map, List.map_map]
  show _ ++ (_ ++ []) = _
  rw [List.append_nil]
  congr 1 <;> exact List.map_congr_left fun i _ => by show _ = D.tup [_, .int ((i + 1 : Nat) : Int)]; rw [Nat.add_comm]
theorem spots_cat (n : Nat) : (((List.range (n - 1)).map fun i => D.tup [.str "down", .int ((1 + i : Nat) : Int)]) ++ ((List.range (n - 1)).map fun i => D.tup [.str "across", .int ((1 + i : Nat) : Int)])) = (spotL n).map spotD := by
  rw [← spots_flat]
  show _ = _ ++ (_ ++ [])
  rw [List.append_nil]
  rfl
theorem len_two {xs : List D} (h : xs.length = 2) : ∃ a b, xs = [a, b] := by
  match xs, h with
  | [a, b], _ => exact ⟨a, b, rfl⟩
theorem twoW_half {b : Bx} {ws : List Int} {p : Bool × Nat} (h : Bool) (hw : WtOk ws) (h0 : 1 ≤ p.2) (h1 : p.2 < ws.length) : WtOk (halfW ws p.2 h) := by
  cases h
  · exact hw.take h0 h1
  · exact hw.drop h1
theorem half_pos {b : Bx} {ws : List Int} {p : Bool × Nat} (h : Bool) (hp : b.Pos) (hw : WtOk ws) (h0 : 1 ≤ p.2) (h1 : p.2 < ws.length) : (halfB b ws p h).Pos := by
  cases h
  · exact fst_pos hp hw h0 h1 p.1
  · exact snd_pos hp hw h0 h1 p.1
theorem half_lv {b : Bx} {ws : List Int} {p : Bool × Nat} {j : Nat} (h : Bool) (hv : b.Lv j) (hj : j ≤ 4) (hw : WtOk ws) (h0 : 1 ≤ p.2) (h1 : p.2 < ws.length) : (halfB b ws p h).Lv (j + 1) := by
  cases h
  · exact fst_lv hv hj hw h0 h1 p.1
  · exact snd_lv hv hj hw h0 h1 p.1
mutual
theorem plD_kn : ∀ (d : D) {n : Nat}, plD n d = true → knD d = true
  | .non, _, _ => rfl
  | .bl _, _, _ => rfl
  | .int _, _, _ => rfl
  | .str _, _, _ => rfl
  | .tup xs, 0, h => by simp [plD] at h
  | .lst xs, 0, h => by simp [plD] at h
  | .tup xs, n + 1, h => plL_kn xs (plD_t h)
  | .lst xs, n + 1, h => plL_kn xs (plD_l h)
  | .dic _, n, h => by cases n <;> simp [plD] at h
  | .dct _, n, h => by cases n <;> simp [plD] at h
  | .ins _ _, n, h => by cases n <;> simp [plD] at h
  | .xcp _ _ _ _, n, h => by cases n <;> simp [plD] at h
  | .opq _, n, h => by cases n <;> simp [plD] at h
theorem plL_kn : ∀ (d : List D) {n : Nat}, plL n d = true → knL d = true
  | [], _, _ => rfl
  | d :: ds, n, h => by
    simp only [plL, Bool.and_eq_true] at h
    simp only [knL, Bool.and_eq_true]
    exact ⟨plD_kn d h.1, plL_kn ds h.2⟩
end
theorem zip_spots (n : Nat) (xs : List D) : List.zipWith (fun d e => D.tup [d, e]) ((spotL n).map spotD) xs = ((spotL n).zip xs).map fun p => .tup [spotD p.1, p.2] := by
  rw [List.zip, List.map_zipWith, List.zipWith_map_left]
theorem st_not_len {r : Rat} {n : Nat} {b : Bx} {ws : List Int} {xs : List D} (h : 1 < ws.length) (hl : xs.length ≠ (spotL ws.length).length) : stB r (n + 1) b ws (.tup xs) = false := stB_no fun z => by
  obtain ⟨ys, e, hy, _⟩ := st_many h z
  injection e with e
  rw [← e] at hy
  exact hl hy
theorem st_not_tup {r : Rat} {n : Nat} {b : Bx} {ws : List Int} {d : D} (h : ∀ xs, d ≠ .tup xs) : stB r n b ws d = false := stB_no fun z => by
  obtain ⟨xs, e⟩ := St_tup z
  exact h xs e
theorem st_not_at {r : Rat} {n : Nat} {b : Bx} {ws : List Int} {xs : List D} {i : Nat} {s : Bool × Nat} {x : D} (h : 1 < ws.length) (hs : (spotL ws.length)[i]? = some s) (hx : xs[i]? = some x) (hp : ¬ PairOk (fun h e => St r n (halfB b ws s h) (halfW ws s.2 h) e) x) : stB r (n + 1) b ws (.tup xs) = false := stB_no fun z => by
  obtain ⟨ys, e, _, hy⟩ := st_many h z
  injection e with e
  subst e
  exact hp (hy i s x hs hx)
theorem tw_sz7 {t : Tr} {b : Bx} {ws : List Int} {k : Nat} (hn : t.n = ws.length) (hw : WtOk ws) (hp : b.Pos) (hl : b.Lv k) (hk : k + ws.length ≤ 6) : DL.Sz 700 (tw t b ws) := by
  obtain ⟨c, hc, e⟩ := List.mem_map.mp (tw_max t b ws).mem
  obtain ⟨pc, j, hj, lc⟩ := slc_ok t b ws k hn hw hp hl hk c hc
  rw [← e]
  exact (DL.Sz.shape lc.w lc.h pc.w pc.h).mono (by omega)
theorem least_sz {b : Bx} {ws : List Int} {r : Rat} (h : LeastT b ws r) (hw : WtOk ws) (hp : b.Pos) (hl : b.Sz 202) (hk : ws.length ≤ 6) : DL.Sz 700 r := by
  obtain ⟨t, e1, e2⟩ := h.is
  rw [← e2]
  exact tw_sz7 e1 hw hp hl.lv (by omega)
theorem tw_ge {t : Tr} {b : Bx} {ws : List Int} {k : Nat} (hn : t.n = ws.length) (hw : WtOk ws) (hp : b.Pos) (hl : b.Lv k) (hk : k + ws.length ≤ 6) : 1 ≤ tw t b ws := by
  obtain ⟨c, hc, e⟩ := List.mem_map.mp (tw_max t b ws).mem
  obtain ⟨pc, j, hj, lc⟩ := slc_ok t b ws k hn hw hp hl hk c hc
  rw [← e]
  exact shapeR_ge pc.w pc.h
theorem least_ge {b : Bx} {ws : List Int} {r : Rat} (h : LeastT b ws r) (hw : WtOk ws) (hp : b.Pos) (hl : b.Sz 202) (hk : ws.length ≤ 6) : 1 ≤ r := by
  obtain ⟨t, e1, e2⟩ := h.is
  rw [← e2]
  exact tw_ge e1 hw hp hl.lv (by omega)
theorem least_not {b : Bx} {ws : List Int} {l r : Rat} {n : Nat} {d : D} (h : LeastT b ws l) (hs : St r n b ws d) : ¬ l < r := by
  obtain ⟨t, e1, e2⟩ := h.is
  rw [← e2]
  exact Rat.not_lt.mpr (St_le n b ws d hs t e1)
theorem least_lt {b : Bx} {ws : List Int} {l r : Rat} {t : Tr} (h : LeastT b ws l) (e : t.n = ws.length) (hl : tw t b ws < r) : l < r := Std.lt_of_le_of_lt (h.le t e) hl
/-! ### plain data of so few things at each place -/
mutual
def lnD (L : Nat) : D → Bool
  | .tup xs => decide (xs.length ≤ L) && lnL L xs
  | .lst xs => decide (xs.length ≤ L) && lnL L xs
  | _ => true
def lnL (L : Nat) : List D → Bool
  | [] => true
  | d :: ds => lnD L d && lnL L ds
end
theorem lnL_iff {L : Nat} : ∀ {xs : List D}, lnL L xs = true ↔ ∀ x ∈ xs, lnD L x = true
  | [] => ⟨fun _ _ h => (nomatch h), fun _ => rfl⟩
  | d :: ds => by
    simp only [lnL, Bool.and_eq_true, List.mem_cons, forall_eq_or_imp, lnL_iff (xs := ds)]
theorem plL_iff {n : Nat} : ∀ {xs : List D}, plL n xs = true ↔ ∀ x ∈ xs, plD n x = true := ⟨fun h x hx => plL_mem h hx, fun h => plL_of h⟩
mutual
theorem lnD_mono {L M : Nat} (h : L ≤ M) : ∀ (d : D), lnD L d = true → lnD M d = true
  | .tup xs, q => by
    simp only [lnD, Bool.and_eq_true, decide_eq_true_eq] at q ⊢
    exact ⟨by omega, lnL_mono h xs q.2⟩
  | .lst xs, q => by
    simp only [lnD, Bool.and_eq_true, decide_eq_true_eq] at q ⊢
    exact ⟨by omega, lnL_mono h xs q.2⟩
  | .non, _ => rfl
  | .bl _, _ => rfl
  | .int _, _ => rfl
  | .str _, _ => rfl
  | .dic _, _ => rfl
  | .dct _, _ => rfl
  | .ins _ _, _ => rfl
  | .xcp _ _ _ _, _ => rfl
  | .opq _, _ => rfl
theorem lnL_mono {L M : Nat} (h : L ≤ M) : ∀ (d : List D), lnL L d = true → lnL M d = true
  | [], _ => rfl
  | d :: ds, q => by
    simp only [lnL, Bool.and_eq_true] at q ⊢
    exact ⟨lnD_mono h d q.1, lnL_mono h ds q.2⟩
end
/-- such data: so deep, so wide -/
structure Fw (N L : Nat) (d : D) : Prop where
  p : plD N d = true
  l : lnD L d = true
theorem Fw.tup {N L : Nat} {xs : List D} (h : Fw (N + 1) L (.tup xs)) : xs.length ≤ L ∧ ∀ x ∈ xs, Fw N L x := by
  have l := h.l
  simp only [lnD, Bool.and_eq_true, decide_eq_true_eq] at l
  exact ⟨l.1, fun x hx => ⟨plL_mem (plD_t h.p) hx, lnL_iff.mp l.2 x hx⟩⟩
theorem Fw.mk_tup {N L : Nat} {xs : List D} (hL : L ≤ 100000) (hl : xs.length ≤ L) (h : ∀ x ∈ xs, Fw N L x) : Fw (N + 1) L (.tup xs) := by
  refine ⟨plD_tI (plL_of fun x hx => (h x hx).p) (by omega), ?_⟩
  simp only [lnD, Bool.and_eq_true, decide_eq_true_eq]
  exact ⟨hl, lnL_iff.mpr fun x hx => (h x hx).l⟩
theorem Fw.mono {N L M : Nat} {d : D} (h : Fw N L d) (hL : L ≤ M) : Fw N M d := ⟨h.p, lnD_mono hL d h.l⟩
theorem fw_dec {N L : Nat} {d : D} (h : plD 3 d = true) (h2 : lnD 3 d = true) (hN : 3 ≤ N) (hL : 3 ≤ L) : Fw N L d := ⟨plD_mono d h hN, lnD_mono hL d h2⟩
theorem St_fw {r : Rat} : ∀ (n : Nat) (b : Bx) (ws : List Int) (d : D), ws.length ≤ 12 → St r n b ws d → lnD 22 d = true
  | 0, _, _, _, _, h => h.elim
  | n + 1, b, ws, d, hw, h => by
    rcases h with ⟨h1, rfl, h2⟩ | ⟨h1, xs, rfl, hl, h2⟩
    · rfl
    · rw [spotL_len] at hl
      simp only [lnD, Bool.and_eq_true, decide_eq_true_eq]
      refine ⟨by omega, lnL_iff.mpr fun x hx => ?_⟩
      obtain ⟨i, hi⟩ := List.mem_iff_getElem?.mp hx
      have hil : i < (spotL ws.length).length := by rw [spotL_len, ← hl]; exact (List.getElem?_eq_some_iff.mp hi).1
      have hm := spot_mem.mp (List.getElem_mem hil)
      obtain ⟨hf, e, rfl, hs⟩ := h2 i _ x (List.getElem?_eq_getElem hil) hi
      have := halfW_len hm.1 hm.2 hf
      simp only [lnD, lnL, Bool.and_eq_true, decide_eq_true_eq]
      exact ⟨by show 2 ≤ 22; decide, rfl, St_fw n _ _ _ (by omega) hs, trivial⟩
end DL

/-! DLCh: rows of sizes as a tree: the same boxes. -/
namespace DL
open PySem L2
def chT (dn : Bool) : List Tr → Tr
  | [] => .lf
  | [t] => t
  | t :: u :: r => .nd dn t (chT dn (u :: r))
theorem chT_n (dn : Bool) : ∀ (t : Tr) (r : List Tr), (chT dn (t :: r)).n = ((t :: r).map Tr.n).sum
  | t, [] => by show t.n = t.n + 0; rfl
  | t, u :: r => by
    show t.n + (chT dn (u :: r)).n = t.n + ((u :: r).map Tr.n).sum
    rw [chT_n dn u r]
theorem cut_cut (b : Bx) (dn : Bool) (p q x y : Rat) : cutB (cutB b dn p q) dn x y = cutB b dn (p + q * x) (q * y) := by
  cases dn with
  | true =>
    show Bx.mk b.l (b.t + b.h * p + b.h * q * x) b.w (b.h * q * y) = Bx.mk b.l (b.t + b.h * (p + q * x)) b.w (b.h * (q * y))
    congr 1 <;> grind
  | false =>
    show Bx.mk (b.l + b.w * p + b.w * q * x) b.t (b.w * q * y) b.h = Bx.mk (b.l + b.w * (p + q * x)) b.t (b.w * (q * y)) b.h
    congr 1 <;> grind
theorem cut_whole (b : Bx) (dn : Bool) : cutB b dn 0 1 = b := by
  cases dn with
  | true =>
    show Bx.mk b.l (b.t + b.h * 0) b.w (b.h * 1) = b
    rw [Rat.mul_zero, Rat.add_zero, Rat.mul_one]
  | false =>
    show Bx.mk (b.l + b.w * 0) b.t (b.w * 1) b.h = b
    rw [Rat.mul_zero, Rat.add_zero, Rat.mul_one]
theorem div_div (a s t : Int) (hs : s ≠ 0) (ht : t ≠ 0) : Rat.divInt s t * Rat.divInt a s = Rat.divInt a t := by
  rw [Rat.divInt_mul_divInt, Int.mul_comm t s, Rat.divInt_mul_left hs]
/-- boxes of trees that stand in a row -/
def flatC (b : Bx) (dn : Bool) (S : Int) : Int → List (Tr × List Int) → List Bx
  | _, [] => []
  | p, q :: r => slc q.1 (cutB b dn (Rat.divInt p S) (Rat.divInt q.2.sum S)) q.2 ++ flatC b dn S (p + q.2.sum) r
theorem ch_flat (b : Bx) (dn : Bool) {S : Int} (hS : S ≠ 0) : ∀ (q : Tr × List Int) (r : List (Tr × List Int)) (p : Int), (∀ x ∈ q :: r, x.1.n = x.2.length ∧ 0 < x.2.sum) → slc (chT dn ((q :: r).map (·.1))) (cutB b dn (Rat.divInt p S) (Rat.divInt ((q :: r).flatMap (·.2)).sum S)) ((q :: r).flatMap (·.2)) = flatC b dn S p (q :: r)
  | q, [], p, h => by
    show slc q.1 (cutB b dn _ (Rat.divInt (q.2 ++ []).sum S)) (q.2 ++ []) = slc q.1 _ q.2 ++ []
    rw [List.append_nil, List.append_nil]
  | q, u :: r, p, h => by
    have hq := h q (List.mem_cons_self ..)
    have ih := ch_flat b dn hS u r (p + q.2.sum) fun x hx => h x (List.mem_cons_of_mem _ hx)
    have hrest : 0 < ((u :: r).flatMap (·.2)).sum := by
      have : ∀ l : List (Tr × List Int), (∀ x ∈ l, 0 < x.2.sum) → 0 ≤ (l.flatMap (·.2)).sum := fun l => by
        induction l with
        | nil => intro _; exact Int.le_refl _
        | cons a l ih =>
          intro ha
          have := ih fun x hx => ha x (List.mem_cons_of_mem _ hx)
          have := ha a (List.mem_cons_self ..)
          rw [List.flatMap_cons, List.sum_append]; omega
      have h1 := this r fun x hx => (h x (List.mem_cons_of_mem _ (List.mem_cons_of_mem _ hx))).2
      have h2 := (h u (by simp)).2
      rw [List.flatMap_cons, List.sum_append]; omega
    show slc q.1 (fstB _ ((q :: u :: r).flatMap (·.2)) q.1.n dn) (((q :: u :: r).flatMap (·.2)).take q.1.n) ++ slc (chT dn ((u :: r).map (·.1))) (sndB _ ((q :: u :: r).flatMap (·.2)) q.1.n dn) (((q :: u :: r).flatMap (·.2)).drop q.1.n) = _
    generalize hR : (u :: r).flatMap (·.2) = R at *
    have e0 : (q :: u :: r).flatMap (·.2) = q.2 ++ R := by rw [List.flatMap_cons, hR]
    rw [e0]
    have e1 : (q.2 ++ R).take q.1.n = q.2 := by rw [hq.1, List.take_left]
    have e2 : (q.2 ++ R).drop q.1.n = R := by rw [hq.1, List.drop_left]
    unfold fstB sndB splitAt_ twoW
    rw [e1, e2]
    have s0 : [q.2.sum, R.sum].sum = (q.2 ++ R).sum := by rw [List.sum_append]; simp
    have p0 : preS [q.2.sum, R.sum] 0 = 0 := preS_zero _
    have p1 : preS [q.2.sum, R.sum] 1 = q.2.sum := by simp [preS]
    have g0 : [q.2.sum, R.sum].getD 0 0 = q.2.sum := rfl
    have g1 : [q.2.sum, R.sum].getD 1 0 = R.sum := rfl
    have hT : (q.2 ++ R).sum ≠ 0 := by rw [List.sum_append]; have := hq.2; omega
    rw [s0, p0, p1, g0, g1, cut_cut, cut_cut, div_div _ _ _ hT hS, div_div _ _ _ hT hS, div_div _ _ _ hT hS, ← divInt_plus hS, ← divInt_plus hS, Int.add_zero, ih]
    rfl
theorem preS_cons (a : Int) (l : List Int) (i : Nat) : preS (a :: l) (i + 1) = a + preS l i := by
  unfold preS
  rw [List.take_succ_cons, List.sum_cons]
theorem flat_ix (b : Bx) (dn : Bool) (S : Int) (d0 : Tr × List Int) : ∀ (r : List (Tr × List Int)) (p : Int), flatC b dn S p r = (List.range r.length).flatMap fun i => slc (r.getD i d0).1 (cutB b dn (Rat.divInt (p + preS (r.map fun q => q.2.sum) i) S) (Rat.divInt ((r.map fun q => q.2.sum).getD i 0) S)) (r.getD i d0).2
  | [], p => rfl
  | q :: r, p => by
    rw [List.length_cons, List.range_succ_eq_map, List.flatMap_cons, List.flatMap_map]
    show slc q.1 _ q.2 ++ flatC b dn S (p + q.2.sum) r = _
    rw [flat_ix b dn S d0 r (p + q.2.sum)]
    congr 1
    · rw [List.map_cons, preS_zero, Int.add_zero]; rfl
    · congr 1
      funext i
      rw [List.map_cons, preS_cons, Int.add_assoc]
      rfl
theorem flatMap_ext {α β : Type} {f g : α → List β} : ∀ {l : List α}, (∀ i ∈ l, f i = g i) → l.flatMap f = l.flatMap g
  | [], _ => rfl
  | a :: l, h => by
    rw [List.flatMap_cons, List.flatMap_cons, h a (List.mem_cons_self ..), flatMap_ext fun i hi => h i (List.mem_cons_of_mem _ hi)]
/-- things in a row: a chain of leaves -/
def rowTr (dn : Bool) (z : Nat) : Tr := chT dn (List.replicate z .lf)
/-- rows of sizes as a tree -/
def rowsTr (dn : Bool) (zs : List Int) : Tr := chT dn (zs.map fun z => rowTr (!dn) z.toNat)
theorem rowTr_n (dn : Bool) {z : Nat} (h : 1 ≤ z) : (rowTr dn z).n = z := by
  obtain ⟨k, rfl⟩ : ∃ k, z = k + 1 := ⟨z - 1, by omega⟩
  unfold rowTr
  rw [List.replicate_succ, chT_n, ← List.replicate_succ, List.map_replicate]
  show (List.replicate (k + 1) 1).sum = k + 1
  rw [List.sum_replicate_nat, Nat.mul_one]
theorem row_slc (b : Bx) (dn : Bool) {row : List Int} (h0 : row ≠ []) (hp : ∀ w ∈ row, 1 ≤ w) : slc (rowTr dn row.length) b row = splitB b row dn := by
  obtain ⟨w, r, rfl⟩ : ∃ w r, row = w :: r := by
    cases row with
    | nil => exact absurd rfl h0
    | cons w r => exact ⟨w, r, rfl⟩
  have e1 : ((w :: r).map fun x => ((.lf, [x]) : Tr × List Int)).flatMap (·.2) = w :: r := by
    rw [List.flatMap_map]
    show ((w :: r).flatMap fun x => [x]) = w :: r
    exact List.flatMap_singleton' _
  have e2 : ((w :: r).map fun x => ((.lf, [x]) : Tr × List Int)).map (·.1) = List.replicate (w :: r).length Tr.lf := by
    rw [List.map_map]
    exact List.map_const' ..
  have hS : (w :: r).sum ≠ 0 := by
    have : 0 ≤ r.sum := by
      have := preS_nonneg (ws := r) (fun x hx => hp x (List.mem_cons_of_mem _ hx)) r.length
      rwa [preS_len] at this
    have := hp w (List.mem_cons_self ..)
    rw [List.sum_cons]; omega
  have := ch_flat b dn hS (.lf, [w]) (r.map fun x => (.lf, [x])) 0 (fun x hx => by
    rw [← List.map_cons (f := fun x => ((.lf, [x]) : Tr × List Int))] at hx
    obtain ⟨y, hy, rfl⟩ := List.mem_map.mp hx
    have := hp y hy
    exact ⟨rfl, by show 0 < y + 0; omega⟩)
  rw [← List.map_cons (f := fun x => ((.lf, [x]) : Tr × List Int)), e1, e2, Rat.zero_divInt, Rat.divInt_self' hS, cut_whole] at this
  unfold rowTr
  rw [this, flat_ix b dn _ (.lf, [])]
  rw [List.length_map]
  have e3 : (((w :: r).map fun x => ((.lf, [x]) : Tr × List Int)).map fun q => q.2.sum) = w :: r := by
    rw [List.map_map]
    show ((w :: r).map fun x => x + 0) = _
    simp
  rw [e3]
  unfold splitB splitAt_
  refine Eq.trans ?_ (List.map_eq_flatMap (f := _) (l := _)).symm
  refine flatMap_ext fun i hi => ?_
  rw [Int.zero_add]
  have : ∀ l : List Int, (((l.map fun x => ((.lf, [x]) : Tr × List Int)).getD i (.lf, [])).1) = .lf := fun l => by
    rw [List.getD_eq_getElem?_getD, List.getElem?_map]
    cases l[i]? <;> rfl
  rw [this]
  rfl
theorem rows_slc {b : Bx} {ws zs : List Int} (dn : Bool) (hw : WOk ws) (hz : SzOk zs ws.length) : slc (rowsTr dn zs) b ws = laidB b ws zs dn ∧ (rowsTr dn zs).n = ws.length := by
  have z0 := hz.ne hw.l0
  obtain ⟨trs, ht⟩ : ∃ trs : List (Tr × List Int), trs = (List.range zs.length).map fun i => (rowTr (!dn) (zs.getD i 0).toNat, rowAt ws zs i) := ⟨_, rfl⟩
  have hl : trs.length = zs.length := by rw [ht, List.length_map, List.length_range]
  have row : ∀ i, i < zs.length → (rowAt ws zs i).length = (zs.getD i 0).toNat ∧ 1 ≤ (zs.getD i 0).toNat := fun i hi => by
    have ez : zs[i]? = some zs[i] := List.getElem?_eq_getElem hi
    rw [row_len hz ez, getD_of ez]
    exact ⟨rfl, (hz.at_ ez).1⟩
  have e1 : trs.map (·.1) = zs.map fun z => rowTr (!dn) z.toNat := by
    rw [ht, List.map_map]
    apply List.ext_getElem?
    intro i
    rw [List.getElem?_map, List.getElem?_map]
    by_cases hi : i < zs.length
    · rw [List.getElem?_range hi, List.getElem?_eq_getElem hi]
      show some (rowTr (!dn) (zs.getD i 0).toNat) = _
      rw [getD_of (List.getElem?_eq_getElem hi)]; rfl
    · rw [List.getElem?_eq_none (by rw [List.length_range]; omega), List.getElem?_eq_none (by omega)]; rfl
  have e2 : trs.flatMap (·.2) = ws := by
    rw [ht, List.flatMap_map]
    exact rows_all hz
  have e3 : (trs.map fun q => q.2.sum) = sumsOf ws zs := by
    rw [ht, List.map_map]; rfl
  have hS : ws.sum ≠ 0 := by have := hw.sum_pos; omega
  obtain ⟨q, r, hqr⟩ : ∃ q r, trs = q :: r := by
    cases trs with
    | nil => simp at hl; omega
    | cons q r => exact ⟨q, r, rfl⟩
  have hx : ∀ x ∈ q :: r, x.1.n = x.2.length ∧ 0 < x.2.sum := fun x hx => by
    rw [← hqr, ht] at hx
    obtain ⟨i, hi, rfl⟩ := List.mem_map.mp hx
    have hi := List.mem_range.mp hi
    obtain ⟨r1, r2⟩ := row i hi
    exact ⟨by show (rowTr _ _).n = _; rw [rowTr_n _ r2, r1], (row_wok hw hz hi).sum_pos⟩
  have main := ch_flat b dn hS q r 0 hx
  rw [← hqr, e1, e2, Rat.zero_divInt, Rat.divInt_self' hS, cut_whole] at main
  constructor
  · unfold rowsTr
    rw [main, flat_ix b dn _ (.lf, []), e3, hl]
    unfold laidB
    refine flatMap_ext fun i hi => ?_
    have hi := List.mem_range.mp hi
    obtain ⟨r1, r2⟩ := row i hi
    have eg : trs.getD i (.lf, []) = (rowTr (!dn) (zs.getD i 0).toNat, rowAt ws zs i) := by
      rw [ht, List.getD_eq_getElem?_getD, List.getElem?_map, List.getElem?_range hi]; rfl
    rw [eg, Int.zero_add, ← r1]
    show slc (rowTr (!dn) (rowAt ws zs i).length) _ (rowAt ws zs i) = _
    rw [row_slc _ _ (fun z => by have q := congrArg List.length z; rw [r1] at q; have q : (zs.getD i 0).toNat = 0 := q; omega) (row_wok hw hz hi).pos]
    unfold laidAt splitAt_
    rw [sums_sum hz]
  · have := congrArg List.length main
    rw [slc_len] at this
    have l2 : (flatC b dn ws.sum 0 trs).length = ws.length := by
      rw [← e2]
      have : ∀ (l : List (Tr × List Int)) (p : Int), (∀ x ∈ l, x.1.n = x.2.length ∧ 0 < x.2.sum) → (flatC b dn ws.sum p l).length = (l.flatMap (·.2)).length := fun l => by
        induction l with
        | nil => intro p _; rfl
        | cons a l ih =>
          intro p hh
          show (slc a.1 _ a.2 ++ flatC b dn ws.sum _ l).length = _
          rw [List.length_append, slc_len, ih _ fun x hx => hh x (List.mem_cons_of_mem _ hx), List.flatMap_cons, List.length_append, (hh a (List.mem_cons_self ..)).1]
      rw [e2]
      have q2 := this trs 0 (hqr ▸ hx)
      rw [e2] at q2
      exact q2
    rw [l2] at this
    exact this
theorem rows_tw {b : Bx} {ws zs : List Int} (dn : Bool) (hp : b.Pos) (hw : WOk ws) (hz : SzOk zs ws.length) : tw (rowsTr dn zs) b ws = worstR b dn ws zs := by
  rw [← worst_laid hp hw hz dn, ← (rows_slc dn hw hz).1, ← tw_eq]
  rfl
theorem chT_cons (dn : Bool) (a : Tr) {l : List Tr} (h : l ≠ []) : chT dn (a :: l) = .nd dn a (chT dn l) := by
  cases l with
  | nil => exact absurd rfl h
  | cons u r => rfl
theorem last_ix (xs : List Tr) (x : Tr) : atD ((xs ++ [x]).map Tr.d) (-1) = some x.d :=
  atD_last (by rw [List.length_append]; show (xs ++ [x])[xs.length + 1 - 1]? = some x; rw [Nat.add_sub_cancel, List.getElem?_append_right (Nat.le_refl _), Nat.sub_self]; rfl) (by rw [List.length_append]; exact Nat.le_add_left _ _)
theorem cut_last (xs : List Tr) (x : Tr) : cutD ((xs ++ [x]).map Tr.d) none (some (-1)) = xs.map Tr.d := by
  unfold cutD
  simp [HT.sIx]
  rw [show (-1 + ((xs.length : Int) + 1)).toNat = xs.length by omega, List.take_left' (List.length_map _)]
theorem rows_least {b : Bx} {ws : List Int} {x : Rat} (dn : Bool) (hp : b.Pos) (hw : WOk ws) (h : LeastT b ws x) : ¬ LE (shp b dn ws) ws.length 0 < x := by
  obtain ⟨zs, w, e⟩ := (LE_ok (sh := shp b dn ws) (n := ws.length) (Nat.zero_le _)).is
  rw [← e, ← worst_way hp dn hw w, ← rows_tw dn hp hw (way_szok w)]
  exact Rat.not_lt.mpr (h.le _ (rows_slc (b := b) dn hw (way_szok w)).2)
end DL
/-! ### xs[::-1] -/
namespace DL
open PySem PySem.Spec PyProof.Rows L2
section
variable {X : Cx} {W : WX} {e : Expr} {we : DL.WE} {K : PySem.W.Frag}
theorem RepL.rev {G : Hp} : ∀ {vs : List V} {ds : List D}, RepL K G vs ds → RepL K G vs.reverse ds.reverse
  | _, _, .nil => .nil
  | _, _, .cons h r => by
    rw [List.reverse_cons, List.reverse_cons]
    exact (RepL.rev r).append (.cons h .nil)
def oRevL : D → Cs → DP → Prop := fun x cs P => ∃ xs, x = .lst xs ∧ P (.lst xs.reverse) cs
def wRevL (we : DL.WE) : DL.WE := fun ρ cs P Z => we ρ cs (fun x cs1 => oRevL x cs1 P) Z
theorem d_revL {k : Nat} {p1 p2 p3 pos : Pos} (he : DE X W e we) : DE X W (.Subscript e (.Slice none none (some (.UnaryOp .USub (.Constant (.int 1) k p1) p2)) p3) pos) (wRevL we) :=
  PE.imp (pe_revL he) fun σ H Q hq => by
    obtain ⟨F, cs, ρ, P, Z, s, re, hw, pe, px⟩ := hq
    refine ⟨F, cs, ρ, _, Z, s, re, hw, fun H1 cs1 v d s1 r1 h1 => ?_, px⟩
    obtain ⟨xs, rfl, h1⟩ := h1
    cases r1 with
    | @lst a vs _ hs r =>
      refine ⟨a, vs, rfl, ex_l pur_le hs, fun p hp => ?_⟩
      obtain ⟨s2, e2⟩ := s1.new (o := .lst vs.reverse) hp
      exact pe _ cs1 _ _ (s2.from_ s1.gr) (.lst (SqL.of e2) (r.rev.mono s2.gr)) h1
theorem r_revL {ρ : DL.Env} {cs : Cs} {P : DP} {Z : XZ} (h : we ρ cs (fun x cs1 => oRevL x cs1 P) Z) : wRevL we ρ cs P Z := h
theorem r_revLL {xs : List D} {cs : Cs} {P : DP} (h : P (.lst xs.reverse) cs) : oRevL (.lst xs) cs P := ⟨xs, rfl, h⟩
end
end DL

/-! DLNd: what is no box, weights, side, sizes, bound, kept rows: the word that is due. -/
namespace DL
open PySem PySem.Spec PyProof.Rows L2
/-- the first word that is due -/
def andW (a b : Str) : Str := if a = "" then b else a
theorem andW_nil {a b : Str} (h : andW a b = "") : a = "" ∧ b = "" := by
  unfold andW at h
  split at h
  · exact ⟨by assumption, h⟩
  · exact absurd h (by assumption)
theorem andW_r {b : Str} : andW "" b = b := if_pos rfl
theorem andW_e {a b : Str} (h : a = "") : andW a b = b := if_pos h
theorem andW_l {a b : Str} (h : a ≠ "") : andW a b = a := if_neg h
def badW (k : Bool) (n : Str) : Str := if k then "" else n
theorem badW_t {k : Bool} {n : Str} (h : k = true) : badW k n = "" := by rw [h]; rfl
theorem badW_f {k : Bool} {n : Str} (h : k = false) : badW k n = n := by rw [h]; rfl
theorem badW_nil {k : Bool} {n : Str} (hn : n ≠ "") (h : badW k n = "") : k = true := by
  cases k with
  | true => rfl
  | false => exact absurd h hn
/-- what is asked of a check -/
structure Due (y : Str) (P : Prop) (Q : Str → Prop) : Prop where
  ok : y = "" → P
  no : y ≠ "" → Q y
theorem Due.of {y : Str} {P : Prop} {Q : Str → Prop} (e : y = "") (h : P) : Due y P Q := ⟨fun _ => h, fun z => absurd e z⟩
def whyBox (d : D) : Str := badW (boxD d) "BadBox"
def whyWt (d : D) : Str := badW (weightsD d) "BadWeight"
def sideB (d : D) : Bool := [D.str "down", .str "across"].any fun z => eqD z d
def whySide (d : D) : Str := badW (sideB d) "BadSide"
def whyAll (b w s : D) : Str := andW (whyBox b) (andW (whyWt w) (whySide s))
theorem partD_kn {d : D} (h : partD d = true) : knD d = true := by
  obtain ⟨r, rfl⟩ := partD_inv h
  rfl
theorem boxD_inv {d : D} (h : boxD d = true) : ∃ b : Bx, d = b.d ∧ b.Pos := by
  unfold boxD at h
  split at h
  · simp only [Bool.and_eq_true] at h
    obtain ⟨h1, h2, h3, h4, h5, h6⟩ := h
    obtain ⟨l, rfl⟩ := partD_inv h1
    obtain ⟨t, rfl⟩ := partD_inv h2
    obtain ⟨w, rfl⟩ := partD_inv h3
    obtain ⟨k, rfl⟩ := partD_inv h4
    rw [posD_dR] at h5 h6
    exact ⟨⟨l, t, w, k⟩, rfl, ⟨of_decide_eq_true h5, of_decide_eq_true h6⟩⟩
  · cases h
theorem wts_inv : ∀ {xs : List D}, xs.all wOkD = true → ∃ ws : List Int, xs = ws.map D.int ∧ ∀ w ∈ ws, 1 ≤ w ∧ w ≤ 400000
  | [], _ => ⟨[], rfl, fun _ h => (nomatch h)⟩
  | x :: xs, h => by
    simp only [List.all_cons, Bool.and_eq_true] at h
    obtain ⟨ws, rfl, hw⟩ := wts_inv h.2
    have h1 := h.1
    unfold wOkD at h1
    split at h1
    · rename_i i
      simp only [Bool.and_eq_true, decide_eq_true_eq] at h1
      exact ⟨i :: ws, rfl, fun w hm => by
        rcases List.mem_cons.mp hm with rfl | hm
        · exact h1
        · exact hw w hm⟩
    · cases h1
theorem weightsD_inv {d : D} (h : weightsD d = true) : ∃ ws : List Int, WD d ws ∧ WtOk ws := by
  unfold weightsD at h
  split at h
  all_goals first
    | cases h
    | (unfold wtsL at h
       simp only [Bool.and_eq_true, decide_eq_true_eq] at h
       obtain ⟨⟨h1, h2⟩, h3⟩ := h
       obtain ⟨ws, rfl, hw⟩ := wts_inv h3
       rw [List.length_map] at h1 h2
       exact ⟨ws, by first | exact .inl rfl | exact .inr rfl, ⟨h1, h2, hw⟩⟩)
theorem sideB_inv {d : D} (h : sideB d = true) : ∃ dn, d = sideD dn := by
  unfold sideB at h
  simp only [List.any_cons, List.any_nil, Bool.or_false, Bool.or_eq_true] at h
  cases d <;> try (simp [eqD] at h; done)
  rename_i x
  simp only [eqD, beq_iff_eq] at h
  rcases h with h | h
  · exact ⟨true, by rw [← h]; rfl⟩
  · exact ⟨false, by rw [← h]; rfl⟩
theorem sideB_side (dn : Bool) : sideB (sideD dn) = true := by cases dn <;> decide
theorem whyAll_ok {b w s : D} (h : whyAll b w s = "") : (∃ bx : Bx, b = bx.d ∧ bx.Pos) ∧ (∃ ws : List Int, WD w ws ∧ WtOk ws) ∧ ∃ dn, s = sideD dn := by
  obtain ⟨h1, h2⟩ := andW_nil h
  obtain ⟨h2, h3⟩ := andW_nil h2
  exact ⟨boxD_inv (badW_nil (by decide) h1), weightsD_inv (badW_nil (by decide) h2), sideB_inv (badW_nil (by decide) h3)⟩
theorem wtD_wd {w : D} {ws : List Int} (hwd : WD w ws) (hw : WtOk ws) : weightsD w = true := by
  rcases hwd with rfl | rfl <;> exact wtsL_ok hw
theorem whyAll_good {b : Bx} {ws : List Int} {dn : Bool} {wd : D} (hwd : WD wd ws) (hp : b.Pos) (hw : WtOk ws) : whyAll b.d wd (sideD dn) = "" := by
  unfold whyAll whyBox whyWt whySide
  rw [badW_t (boxD_Bx hp), badW_t (wtD_wd hwd hw), badW_t (sideB_side dn)]; rfl
theorem whyAll_box {b w s : D} (h : boxD b = false) : whyAll b w s = "BadBox" := by
  unfold whyAll whyBox
  rw [badW_f h]; rfl
theorem whyAll_wt {b w s : D} (h : boxD b = true) (h2 : weightsD w = false) : whyAll b w s = "BadWeight" := by
  unfold whyAll whyBox whyWt
  rw [badW_t h, badW_f h2]; rfl
theorem whyAll_side {b w s : D} (h : boxD b = true) (h2 : weightsD w = true) : whyAll b w s = whySide s := by
  unfold whyAll whyBox whyWt
  rw [badW_t h, badW_t h2]; rfl
/-! sizes -/
def seqB : D → Bool
  | .lst xs => decide (xs.length ≤ 100000)
  | .tup xs => decide (xs.length ≤ 100000)
  | _ => true
def sizeB : D → Bool
  | .int i => decide (0 < i)
  | _ => false
def sizesB (d : D) (n : Int) : Bool := match d with
  | .tup xs => xs.all sizeB && decide (((intsOf xs).getD []).sum = n)
  | _ => false
def whySizes (d : D) (n : Int) : Str := badW (sizesB d n) "BadSizes"
theorem sizes_inv : ∀ {xs : List D}, xs.all sizeB = true → ∃ zs : List Int, xs = zs.map D.int ∧ ∀ z ∈ zs, 1 ≤ z
  | [], _ => ⟨[], rfl, fun _ h => (nomatch h)⟩
  | x :: xs, h => by
    simp only [List.all_cons, Bool.and_eq_true] at h
    obtain ⟨zs, rfl, hz⟩ := sizes_inv h.2
    have h1 := h.1
    unfold sizeB at h1
    split at h1
    · rename_i i
      exact ⟨i :: zs, rfl, fun w hm => by
        rcases List.mem_cons.mp hm with rfl | hm
        · have := of_decide_eq_true h1; omega
        · exact hz w hm⟩
    · cases h1
theorem sizesB_inv {d : D} {n : Nat} (h : sizesB d n = true) : ∃ zs : List Int, d = .tup (zs.map D.int) ∧ SzOk zs n := by
  unfold sizesB at h
  split at h
  · rw [Bool.and_eq_true] at h
    obtain ⟨zs, rfl, hz⟩ := sizes_inv h.1
    have h2 := of_decide_eq_true h.2
    rw [intsOf_map] at h2
    exact ⟨zs, rfl, ⟨hz, h2⟩⟩
  · cases h
theorem sizesB_ok {zs : List Int} {n : Nat} (h : SzOk zs n) : sizesB (.tup (zs.map D.int)) n = true := by
  show (_ && decide _) = true
  rw [intsOf_map]
  rw [decide_eq_true (show (Option.getD (some zs) []).sum = (n : Int) from h.sum), Bool.and_true]
  rw [List.all_eq_true]
  intro d hd
  obtain ⟨z, hz, rfl⟩ := List.mem_map.mp hd
  exact decide_eq_true (by have := h.pos z hz; omega)
/-! bounds -/
def boundB : D → Bool
  | .tup [.int a, .int b] => partD (.tup [.int a, .int b]) && decide (b ≤ a)
  | _ => false
def whyBound (d : D) : Str := badW (boundB d) "BadBound"
theorem boundB_dR (r : Rat) : boundB (dR r) = decide (1 ≤ r) := by
  show (partD (dR r) && decide ((r.den : Int) ≤ r.num)) = _
  rw [partD_dR, Bool.true_and]
  refine decide_eq_decide.mpr ?_
  rw [Rat.le_iff]
  simp
theorem boundB_no {d : D} (h : partD d = false) : boundB d = false := by
  unfold boundB
  split
  · rw [h]; rfl
  · rfl
theorem boundB_inv {d : D} (h : boundB d = true) : ∃ r : Rat, d = dR r ∧ 1 ≤ r := by
  have hp : partD d = true := by
    cases e : partD d with
    | true => rfl
    | false => rw [boundB_no e] at h; cases h
  obtain ⟨r, rfl⟩ := partD_inv hp
  rw [boundB_dR] at h
  exact ⟨r, rfl, of_decide_eq_true h⟩
/-! kept rows -/
def lenI : D → Int
  | .lst xs => xs.length
  | .tup xs => xs.length
  | _ => 0
theorem lenI_wd {w : D} {ws : List Int} (h : WD w ws) : lenI w = ws.length := by
  rcases h with rfl | rfl <;> (show ((ws.map D.int).length : Int) = _; rw [List.length_map])
def keptB (d : D) (n : Int) : Bool := match d with
  | .tup [.int a, .int b] => decide (0 ≤ a) && (decide (0 < b) && decide (a + b ≤ n))
  | _ => false
theorem keptB_inv {d : D} {n : Int} (h : keptB d n = true) : ∃ p : Int × Int, d = prD p ∧ 0 ≤ p.1 ∧ 1 ≤ p.2 ∧ p.1 + p.2 ≤ n := by
  unfold keptB at h
  split at h
  · simp only [Bool.and_eq_true, decide_eq_true_eq] at h
    exact ⟨(_, _), rfl, h.1, h.2.1, h.2.2⟩
  · cases h
theorem keptB_ok {p : Int × Int} {n : Int} (h1 : 0 ≤ p.1) (h2 : 1 ≤ p.2) (h3 : p.1 + p.2 ≤ n) : keptB (prD p) n = true := by
  show (decide _ && (decide _ && decide _)) = true
  rw [decide_eq_true h1, decide_eq_true (show 0 < p.2 by omega), decide_eq_true h3]; rfl
theorem kepts_inv {n : Int} : ∀ {xs : List D}, (xs.all fun x => keptB x n) = true → ∃ ks : List (Int × Int), xs = ks.map prD ∧ ∀ p ∈ ks, 0 ≤ p.1 ∧ 1 ≤ p.2 ∧ p.1 + p.2 ≤ n
  | [], _ => ⟨[], rfl, fun _ h => (nomatch h)⟩
  | x :: xs, h => by
    simp only [List.all_cons, Bool.and_eq_true] at h
    obtain ⟨p, rfl, hp⟩ := keptB_inv h.1
    obtain ⟨ks, rfl, hk⟩ := kepts_inv h.2
    exact ⟨p :: ks, rfl, fun q hq => by
      rcases List.mem_cons.mp hq with rfl | hq
      · exact hp
      · exact hk q hq⟩
theorem prD_inj {p q : Int × Int} (h : prD p = prD q) : p = q := by
  obtain ⟨a, b⟩ := p
  obtain ⟨c, d⟩ := q
  unfold prD at h
  simp only [D.tup.injEq, List.cons.injEq, D.int.injEq, and_true] at h
  rw [h.1, h.2]
theorem map_prD_inj : ∀ {l m : List (Int × Int)}, l.map prD = m.map prD → l = m
  | [], [], _ => rfl
  | [], _ :: _, h => by cases h
  | _ :: _, [], h => by cases h
  | p :: l, q :: m, h => by
    rw [List.map_cons, List.map_cons, List.cons.injEq] at h
    rw [prD_inj h.1, map_prD_inj h.2]
/-- kept rows of n things -/
def KeptOk (d : D) (n : Nat) : Prop := ∃ ks : List (Int × Int), d = .lst (ks.map prD) ∧ KOk ks n
open Classical in
noncomputable def keptOk (d : D) (n : Nat) : Bool := decide (KeptOk d n)
theorem keptOk_t {d : D} {n : Nat} (h : KeptOk d n) : keptOk d n = true := by unfold keptOk; exact @decide_eq_true _ (Classical.propDecidable _) h
theorem keptOk_f {d : D} {n : Nat} (h : ¬ KeptOk d n) : keptOk d n = false := by unfold keptOk; exact @decide_eq_false _ (Classical.propDecidable _) h
theorem keptOk_inv {d : D} {n : Nat} (h : keptOk d n = true) : KeptOk d n := by unfold keptOk at h; exact @of_decide_eq_true _ (Classical.propDecidable _) h
noncomputable def whyKept (d : D) (n : Int) : Str := badW (keptOk d n.toNat) "BadSizes"
def fewLst (d : D) : Bool := match d with
  | .lst xs => decide (xs.length < 64)
  | _ => true
noncomputable def whyCalm (b w s r k : D) : Str := andW (whyAll b w s) (andW (whyBound r) (whyKept k (lenI w)))
/-! few things, trees -/
def whyFew (b w : D) (m : Int) : Str := andW (whyBox b) (andW (whyWt w) (badW (decide (lenI w ≤ m)) "BadSizes"))
theorem whyFew_ok {b w : D} {m : Int} (h : whyFew b w m = "") : (∃ bx : Bx, b = bx.d ∧ bx.Pos) ∧ (∃ ws : List Int, WD w ws ∧ WtOk ws) ∧ lenI w ≤ m := by
  obtain ⟨h1, h2⟩ := andW_nil h
  obtain ⟨h2, h3⟩ := andW_nil h2
  exact ⟨boxD_inv (badW_nil (by decide) h1), weightsD_inv (badW_nil (by decide) h2), of_decide_eq_true (badW_nil (by decide) h3)⟩
theorem whyFew_good {b : Bx} {ws : List Int} {m : Int} {wd : D} (hwd : WD wd ws) (hp : b.Pos) (hw : WtOk ws) (hl : (ws.length : Int) ≤ m) : whyFew b.d wd m = "" := by
  unfold whyFew whyBox whyWt
  rw [badW_t (boxD_Bx hp), badW_t (wtD_wd hwd hw), lenI_wd hwd, badW_t (decide_eq_true hl)]; rfl
theorem whyFew_bad {b w : D} {m : Int} (h : andW (whyBox b) (whyWt w) ≠ "") : whyFew b w m = andW (whyBox b) (whyWt w) := by
  unfold whyFew
  by_cases h1 : whyBox b = ""
  · rw [andW_e h1, andW_e h1]
    rw [andW_e h1] at h
    exact andW_l h
  · rw [andW_l h1, andW_l h1]
def TreeOk (d : D) (n : Nat) : Prop := ∃ t : Tr, d = t.d ∧ t.n = n
open Classical in
noncomputable def treeOk (d : D) (n : Nat) : Bool := decide (TreeOk d n)
theorem treeOk_t {d : D} {n : Nat} (h : TreeOk d n) : treeOk d n = true := by unfold treeOk; exact @decide_eq_true _ (Classical.propDecidable _) h
theorem treeOk_f {d : D} {n : Nat} (h : ¬ TreeOk d n) : treeOk d n = false := by unfold treeOk; exact @decide_eq_false _ (Classical.propDecidable _) h
theorem treeOk_inv {d : D} {n : Nat} (h : treeOk d n = true) : TreeOk d n := by unfold treeOk at h; exact @of_decide_eq_true _ (Classical.propDecidable _) h
noncomputable def whyTree (d : D) (n : Int) : Str := badW (treeOk d n.toNat) "BadSizes"
/-! rows that there are -/
def rowB (f z : D) (n : Int) : Bool := match f, z with
  | .int a, .int b => decide (0 ≤ a) && (decide (1 ≤ b) && decide (a + b ≤ n))
  | _, _ => false
def whyRow (f z : D) (n : Int) : Str := badW (rowB f z n) "BadSizes"
theorem rowB_inv {f z : D} {n : Int} (h : rowB f z n = true) : ∃ a b : Int, f = .int a ∧ z = .int b ∧ 0 ≤ a ∧ 1 ≤ b ∧ a + b ≤ n := by
  unfold rowB at h
  split at h
  · simp only [Bool.and_eq_true, decide_eq_true_eq] at h
    exact ⟨_, _, rfl, rfl, h.1, h.2.1, h.2.2⟩
  · cases h
/-! ### a law of several defs that make lambdas -/
def sp_lawT2 (tb : Cs) : DSp := fun ds cs P _ => ∃ ns : List Int, ds = [.lst (ns.map D.int)] ∧ ns.length ≤ 63 ∧ (cs = tb ∧ (adr tb).Nodup) ∧ ∀ cs', P (.bl true) cs'
theorem law_startT2 {K : PySem.W.Frag} {H : Hp} {a : Addr} {ns : List Int} {ts : List (Addr × Str)} (nd : (ts.map (·.1)).Nodup) (hT : ∀ p ∈ ts, H p.1 = some (.tbl #[])) (hl : ns.length ≤ 63) (hS : SqL K H a (ns.map V.int)) :
    (fun (vs : List V) (H : Hp) (Q : VK) (_ : XK) => spL K 1 (sp_lawT2 (tbls ts)) vs H Q fun _ _ _ => False) [.ref a] H (fun v _ => v = .bl true) (fun _ _ _ => False) := by
  have ea : adr (tbls ts) = ts.map (·.1) := by unfold adr tbls; rw [List.map_map]; rfl
  obtain ⟨F, cs, ds, P, Z, st, r, l, ⟨ns', h1, h2, h3, h4⟩, pe, px⟩ := law_startT nd hT hl hS
  exact ⟨F, cs, ds, P, Z, st, r, l, ⟨ns', h1, h2, ⟨h3, by rw [ea]; exact nd⟩, h4⟩, pe, px⟩
theorem look_of {p : Addr} {m : MO} : ∀ {cs : Cs}, (adr cs).Nodup → (p, m) ∈ cs → look p cs = some m
  | [], _, h => by cases h
  | (a, x) :: r, nd, h => by
    have nd' : (a :: adr r).Nodup := nd
    obtain ⟨n1, n2⟩ := List.nodup_cons.mp nd'
    unfold look
    rcases List.mem_cons.mp h with e | e
    · cases e; rw [if_pos rfl]
    · rw [if_neg]
      · exact look_of n2 e
      · intro z
        subst z
        exact n1 (List.mem_map.mpr ⟨_, e, rfl⟩)
theorem dR_sz {a b : Int} {n : Nat} (ha : a.natAbs < 2 ^ n) (hb : b.natAbs < 2 ^ n) {r : Rat} (h : D.tup [.int a, .int b] = dR r) : Sz n r := by
  unfold dR at h
  simp only [D.tup.injEq, List.cons.injEq, D.int.injEq, and_true] at h
  obtain ⟨h1, h2⟩ := h
  exact ⟨by rw [← h1]; exact ha, by rw [h2, Int.natAbs_natCast] at hb; exact hb⟩
theorem knL_app : ∀ {xs ys : List D}, knL xs = true → knL ys = true → knL (xs ++ ys) = true
  | [], _, _, h => h
  | x :: xs, ys, h1, h2 => by
    simp only [knL, Bool.and_eq_true] at h1
    simp only [List.cons_append, knL, Bool.and_eq_true]
    exact ⟨h1.1, knL_app h1.2 h2⟩
theorem knL_all : ∀ {xs : List D}, (∀ d ∈ xs, knD d = true) → knL xs = true
  | [], _ => rfl
  | x :: xs, h => by
    simp only [knL, Bool.and_eq_true]
    exact ⟨h x (List.mem_cons_self ..), knL_all fun d hd => h d (List.mem_cons_of_mem _ hd)⟩
theorem knL_cut {xs : List D} (h : knL xs = true) (lo hi : Option Int) : knL (DL.cutD xs lo hi) = true := by
  refine knL_all fun d hd => knL_mem h ?_
  unfold DL.cutD at hd
  exact List.mem_of_mem_drop (List.mem_of_mem_take hd)
theorem cut_len {xs : List D} (lo hi : Option Int) : (DL.cutD xs lo hi).length ≤ xs.length := by
  unfold DL.cutD
  rw [List.length_take, List.length_drop]
  omega
theorem plL_app {n : Nat} : ∀ {xs ys : List D}, plL n xs = true → plL n ys = true → plL n (xs ++ ys) = true
  | [], _, _, h => h
  | x :: xs, ys, h1, h2 => by
    simp only [plL, Bool.and_eq_true] at h1
    simp only [List.cons_append, plL, Bool.and_eq_true]
    exact ⟨h1.1, plL_app h1.2 h2⟩
end DL

/-! DLTs: texts: signs, slices, +, in, walks, len, str, int, join, partition, split, f'..'. -/
namespace DL
open PySem PySem.Spec PyProof.Rows L2
section
variable {X : Cx} {W : WX} {K : PySem.W.Frag} {σ : L2.St} {H : Hp} {a b e tg : Expr} {es : List Expr} {wa wb we wo : DL.WE} {w : WA} {pos apos cpos : Pos}
/-- one sign -/
abbrev sgn (c : Nat) : D := .str ⟨#[c]⟩
/-! ### s[i], s[i:j], s + t, c in s -/
def oIxS : DO2 := fun x y cs P => match x, y with
  | .str z, .int i => z.length ≤ 100000 ∧ ∃ c, atI z.cps.toList i = some c ∧ P (sgn c) cs
  | _, _ => False
theorem adq_ixS : Adq K (rIx K) oIxS := fun F cs H x y dx dy P Q s rx ry ho pe => by
  unfold oIxS at ho
  split at ho
  · obtain ⟨hz, c, e2, h⟩ := ho
    cases rx
    cases ry
    exact .inr (.inr ⟨_, _, c, rfl, rfl, Nat.le_trans hz (by decide), e2, pe H cs _ _ s (.str _) h⟩)
  · exact ho.elim
theorem d_ixS (ha : DE X W a wa) (hb : DE X W b wb) (hs : PlainIx b := by intro _ _; rfl) : DE X W (.Subscript a b pos) (wOp oIxS wa wb) := d_ix ix_seq adq_ixS ha hb hs
def oSlS : D → Option Int → Option Int → Cs → DP → Prop := fun x lo hi cs P => match x with
  | .str z => z.length ≤ 100000 ∧ P (.str (cutS z lo hi)) cs
  | _ => False
theorem adq_slS : AdqS K rSlS oSlS := fun F cs H x dx lo hi P Q s rx ho pe => by
  unfold oSlS at ho
  split at ho
  · cases rx
    exact ⟨_, rfl, Nat.le_trans ho.1 (by decide), pe H cs _ _ s (.str _) ho.2⟩
  · exact ho.elim
def oCatS : DO2 := fun x y cs P => match x, y with
  | .str i, .str j => i.length + j.length ≤ 100000 ∧ P (.str (i ++ j)) cs
  | _, _ => False
theorem adq_catS : Adq K (fun x y H Q => ∃ i j, x = .str i ∧ y = .str j ∧ i.length + j.length ≤ sizeLine ∧ Q (.str (i ++ j)) H) oCatS := fun F cs H x y dx dy P Q s rx ry ho pe => by
  unfold oCatS at ho
  split at ho
  · cases rx; cases ry
    exact ⟨_, _, rfl, rfl, Nat.le_trans ho.1 (by decide), pe H cs _ _ s (.str _) ho.2⟩
  · exact ho.elim
theorem d_catS (ha : DE X W a wa) (hb : DE X W b wb) : DE X W (.BinOp a .Add b pos) (wOp oCatS wa wb) := d_op op_add_str adq_catS ha hb
def oInS : DO2 := fun x y cs P => match y with
  | .str z => ∃ c, x = sgn c ∧ P (.bl (decide (c ∈ z.cps.toList))) cs
  | _ => False
theorem adq_inS : Adq K (fun x y H Q => ∃ (c : Nat) (z : Str), x = .str ⟨#[c]⟩ ∧ y = .str z ∧ Q (.bl (decide (c ∈ z.cps.toList))) H) oInS := fun F cs H x y dx dy P Q s rx ry ho pe => by
  unfold oInS at ho
  split at ho
  · obtain ⟨c, rfl, h⟩ := ho
    cases rx; cases ry
    exact ⟨_, _, rfl, rfl, pe H cs _ _ s (.bl _) h⟩
  · exact ho.elim
theorem d_inS (ha : DE X W a wa) (hb : DE X W b wb) (hm : behindInMarks .In b = false := by rfl) : DE X W (.Compare a [.In] [b] pos) (wOp oInS wa wb) := d_cmp op_in_sign adq_inS ha hb hm
theorem dt_inS (ha : DE X W a wa) (hb : DE X W b wb) (hm : behindInMarks .In b = false := by rfl) : DT X W (.Compare a [.In] [b] pos) (wTest (wOp oInS wa wb)) := dt_cmp op_in_sign adq_inS ha hb hm
/-! ### walks -/
def iStrD (we : DL.WE) : WI := fun ρ cs P Z => we ρ cs (fun d cs1 => match d with
  | .str z => P (z.cps.toList.map sgn) cs1
  | _ => False) Z
theorem yi_str {G : Hp} (z : Str) : YI K (Its z) G (z.cps.toList.map sgn) where
  go := fun i d e F cs H s => by
    rw [List.getElem?_map] at e
    obtain ⟨c, hc, _⟩ := Option.map_eq_some_iff.mp e
    have h2 := (List.getElem?_eq_some_iff.mp hc).1
    show i < z.cps.size
    simpa using h2
  yld := fun i d e F cs H x H' s hy => by
    obtain ⟨e1, c, hc, rfl⟩ := hy
    subst e1
    rw [List.getElem?_map] at e
    obtain ⟨c', hc', rfl⟩ := Option.map_eq_some_iff.mp e
    rw [Array.getElem?_toList, hc] at hc'
    cases hc'
    exact ⟨s.self, .str _⟩
  stop := fun F cs H s => by
    show z.cps.size ≤ _
    rw [List.length_map, Array.length_toList]
    exact Nat.le_refl _
theorem di_str (h : DE X W e we) : DI X W tg e (iStrD we) := PI.imp (pi_str h) fun σ H R hq => by
  obtain ⟨F, cs, ρ, P, Z, s, re, hw, pe, px⟩ := hq
  refine ⟨F, cs, ρ, _, Z, s, re, hw, fun H1 cs1 v d s1 r1 h1 => ?_, px⟩
  cases d <;> try exact h1.elim
  cases r1
  exact ⟨_, rfl, pe H1 cs1 _ _ s1 (yi_str _) h1⟩
/-! ### len, str, int -/
def oLenS : DOn := fun ds cs P => match ds with
  | [.str z] => z.length ≤ 100000 ∧ P (.int z.length) cs
  | _ => False
theorem adq_lenS : AdqN K (fun xs H Q => ∃ z, xs = [.str z] ∧ z.length ≤ sizeLine ∧ Q (.int z.length) H) oLenS := fun F cs H xs ds P Q s r ho pe => by
  unfold oLenS at ho
  split at ho
  · cases r with
    | cons h t => cases h; cases t; exact ⟨_, rfl, Nat.le_trans ho.1 (by decide), pe H cs _ _ s (.int _) ho.2⟩
  · exact ho.elim
def oStrI : DOn := fun ds cs P => match ds with
  | [.int i] => i.natAbs.log2 < 1920 ∧ P (.str (toString i : String)) cs
  | _ => False
theorem adq_strI : AdqN K (fun xs H Q => ∃ i, xs = [.int i] ∧ i.natAbs.log2 < 1920 ∧ Q (.str (toString i)) H) oStrI := fun F cs H xs ds P Q s r ho pe => by
  unfold oStrI at ho
  split at ho
  · cases r with
    | cons h t => cases h; cases t; exact ⟨_, rfl, ho.1, pe H cs _ _ s (.str _) ho.2⟩
  · exact ho.elim
def oIntS : DOn := fun ds cs P => match ds with
  | [.str z] => ∃ n, PySem.intText? z = some n ∧ z.length ≤ 640 ∧ P (.int n) cs
  | _ => False
theorem adq_intS : AdqN K (fun xs H Q => ∃ a n, xs = [.str a] ∧ PySem.intText? a = some n ∧ a.length ≤ 640 ∧ Q (.int n) H) oIntS := fun F cs H xs ds P Q s r ho pe => by
  unfold oIntS at ho
  split at ho
  · obtain ⟨n, h1, h2, h3⟩ := ho
    cases r with
    | cons h t => cases h; cases t; exact ⟨_, n, rfl, h1, h2, pe H cs _ _ s (.int _) h3⟩
  · exact ho.elim
def oIntB : DOn := fun ds cs P => match ds with
  | [.bl k] => P (.int (if k then 1 else 0)) cs
  | [.int i] => P (.int i) cs
  | _ => False
theorem adq_intB : AdqN K (fun xs H Q => (∃ i, xs = [.int i] ∧ Q (.int i) H) ∨ ∃ k, xs = [.bl k] ∧ Q (.int (if k then 1 else 0)) H) oIntB := fun F cs H xs ds P Q s r ho pe => by
  unfold oIntB at ho
  split at ho
  · cases r with
    | cons h t => cases h; cases t; exact .inr ⟨_, rfl, pe H cs _ _ s (.int _) ho⟩
  · cases r with
    | cons h t => cases h; cases t; exact .inl ⟨_, rfl, pe H cs _ _ s (.int _) ho⟩
  · exact ho.elim
/-! ### methods of texts -/
def strsOf : List D → Option (List Str)
  | [] => some []
  | .str x :: r => (strsOf r).map (x :: ·)
  | _ => none
theorem strsOf_map : ∀ ns : List Str, strsOf (ns.map D.str) = some ns
  | [] => rfl
  | n :: ns => by rw [List.map_cons]; unfold strsOf; rw [strsOf_map ns]; rfl
theorem strsOf_inv : ∀ {ds : List D} {ns : List Str}, strsOf ds = some ns → ds = ns.map D.str
  | [], ns, h => by cases h; rfl
  | d :: r, ns, h => by
    cases d <;> try (simp [strsOf] at h; done)
    unfold strsOf at h
    cases e : strsOf r with
    | none => rw [e] at h; cases h
    | some ms => rw [e] at h; cases h; rw [strsOf_inv e]; rfl
theorem RepL.ofStrs {G : Hp} : ∀ (ns : List Str), RepL K G (ns.map V.str) (ns.map D.str)
  | [] => .nil
  | n :: ns => .cons (.str n) (RepL.ofStrs ns)
/-- x.m(y), x a text -/
def wM1 (o : DO2) (wo we : DL.WE) : DL.WE := fun ρ cs P Z => wo ρ cs (fun x cs1 => (∃ z, x = .str z) ∧ we ρ cs1 (fun y cs2 => o x y cs2 P) Z) Z
theorem m1_ok {r : V → List V → Hp → VK → Prop} {o : DO2} (adq : Adq K (fun x y H Q => r x [y] H Q) o) {Q : VK} : lE K W (wM1 o wo we) σ H Q → tM1 r (lE K W wo) (lE K W we) σ H Q := by
  rintro ⟨F, cs, ρ, P, Z, s, re, hw, pe, px⟩
  refine ⟨F, cs, ρ, _, Z, s, re, hw, fun H1 cs1 v d s1 r1 h1 => ?_, px⟩
  obtain ⟨⟨z, rfl⟩, h1⟩ := h1
  refine ⟨by cases r1; exact ⟨_, rfl⟩, F, cs1, ρ, _, Z, s1.self, re.mono s1.gr, h1, fun H2 cs2 v2 d2 s2 r2 h2 => ?_, px.le s1.gr⟩
  exact adq F cs2 H2 v v2 _ d2 P Q s2.self (r1.mono s2.gr) r2 h2 (pe.le (s1.gr.trans s2.gr))
def oJoin : DO2 := fun x y cs P => match x, y with
  | .str z, .lst xs => ∃ ns : List Str, strsOf xs = some ns ∧ (ns.map (·.length)).sum + ns.length * z.length ≤ 100000 ∧ P (.str (Str.join z ns)) cs
  | _, _ => False
theorem adq_join : Adq K (fun x y H Q => ∃ a p, ∃ ys : List Str, x = .str a ∧ [y] = [.ref p] ∧ (SqL K H p (ys.map V.str) ∨ SqT K H p (ys.map V.str)) ∧ (ys.map (·.length)).sum + ys.length * a.length ≤ 16777216 ∧ Q (.str (Txt.join a ys)) H) oJoin := fun F cs H x y dx dy P Q s rx ry ho pe => by
  unfold oJoin at ho
  split at ho
  · obtain ⟨ns, h1, h2, h3⟩ := ho
    have e1 := strsOf_inv h1
    subst e1
    cases rx
    cases ry with
    | lst h r =>
      have e2 := RepL.strs ns r
      subst e2
      exact ⟨_, _, ns, rfl, rfl, .inl (ex_l pur_le h), Nat.le_trans h2 (by decide), by rw [TL.join_eq]; exact pe H cs _ _ s (.str _) h3⟩
  · exact ho.elim
theorem d_join (ho : DE X W a wa) (he : DE X W e we) (hs : starEach [e] X.env = [(false, eval e X.env)] := by rfl) (hbase : attributeBase a "join" X.env (eval a X.env) = eval a X.env := by rfl) (hline : (apos.endLine == pos.line) = true := by rfl) :
    DE X W (.Call (.Attribute a "join" apos) [e] [] pos) (wM1 oJoin wa we) := PE.imp (pe_join ho he hs hbase hline) fun σ H Q h => m1_ok adq_join h
def oPartn : DO2 := fun x y cs P => match x, y with
  | .str z, .str t => (t.length == 0) = false ∧ z.length ≤ 100000 ∧ P (.tup [.str (Txt.partition z t).1, .str (Txt.partition z t).2.1, .str (Txt.partition z t).2.2]) cs
  | _, _ => False
theorem adq_partn : Adq K (fun x y H Q => ∃ a b, x = .str a ∧ [y] = [.str b] ∧ (b.length == 0) = false ∧ a.length ≤ sizeLine ∧ ∀ p, H p = none → Q (.ref p) (upd H p (.tup [.str (Txt.partition a b).1, .str (Txt.partition a b).2.1, .str (Txt.partition a b).2.2]))) oPartn := fun F cs H x y dx dy P Q s rx ry ho pe => by
  unfold oPartn at ho
  split at ho
  · cases rx
    cases ry
    refine ⟨_, _, rfl, rfl, ho.1, Nat.le_trans ho.2.1 (by decide), fun p hp => ?_⟩
    obtain ⟨s2, e2⟩ := s.new (o := .tup _) hp
    exact pe _ cs _ _ s2 (.tup (SqT.of e2) (.cons (.str _) (.cons (.str _) (.cons (.str _) .nil)))) ho.2.2
  · exact ho.elim
theorem d_partn (ho : DE X W a wa) (he : DE X W e we) (hs : starEach [e] X.env = [(false, eval e X.env)] := by rfl) (hbase : attributeBase a "partition" X.env (eval a X.env) = eval a X.env := by rfl) (hline : (apos.endLine == pos.line) = true := by rfl) :
    DE X W (.Call (.Attribute a "partition" apos) [e] [] pos) (wM1 oPartn wa we) := PE.imp (pe_partition ho he hs hbase hline) fun σ H Q h => m1_ok adq_partn h
def oSplitS : DO2 := fun x y cs P => match x, y with
  | .str z, .str t => (t.length == 0) = false ∧ z.length ≤ 100000 ∧ P (.lst ((Txt.split z t).map D.str)) cs
  | _, _ => False
theorem adq_splitS : Adq K (fun x y H Q => ∃ a b, x = .str a ∧ [y] = [.str b] ∧ (b.length == 0) = false ∧ a.length + 2 ≤ sizeLine ∧ rNewStrs (Txt.split a b) H Q) oSplitS := fun F cs H x y dx dy P Q s rx ry ho pe => by
  unfold oSplitS at ho
  split at ho
  · cases rx
    cases ry
    refine ⟨_, _, rfl, rfl, ho.1, Nat.le_trans (Nat.add_le_add_right ho.2.1 2) (by decide), fun p hp => ?_⟩
    obtain ⟨s2, e2⟩ := s.new (o := .lst _) hp
    exact pe _ cs _ _ s2 (.lst (SqL.of e2) (RepL.ofStrs _)) ho.2.2
  · exact ho.elim
theorem d_splitS (ho : DE X W a wa) (he : DE X W e we) (hs : starEach [e] X.env = [(false, eval e X.env)] := by rfl) (hbase : attributeBase a "split" X.env (eval a X.env) = eval a X.env := by rfl) (hline : (apos.endLine == pos.line) = true := by rfl) :
    DE X W (.Call (.Attribute a "split" apos) [e] [] pos) (wM1 oSplitS wa we) := PE.imp (pe_split ho he hs hbase hline) fun σ H Q h => m1_ok adq_splitS h
/-! ### f'..' -/
def wFmt (we : DL.WE) : DL.WE := fun ρ cs P Z => we ρ cs (fun x cs1 => match x with
  | .str y => y.length ≤ 100000 ∧ P (.str y) cs1
  | .int i => i.natAbs.log2 < 1920 ∧ P (.str (toString i : String)) cs1
  | _ => False) Z
theorem fmt_inv {x : D} {cs : Cs} {P : DP} (h : (match x with | .str y => y.length ≤ 100000 ∧ P (.str y) cs | .int i => i.natAbs.log2 < 1920 ∧ P (.str (toString i : String)) cs | _ => False)) : (∃ y, x = .str y ∧ y.length ≤ 100000 ∧ P (.str y) cs) ∨ ∃ i, x = .int i ∧ i.natAbs.log2 < 1920 ∧ P (.str (toString i : String)) cs := by
  cases x <;> first | exact h.elim | exact .inl ⟨_, rfl, h⟩ | exact .inr ⟨_, rfl, h⟩
theorem d_fmt (h : DE X W e we) : DE X W (.FormattedValue e (-1) none pos) (wFmt we) := PE.imp (pe_fmt h) fun σ H Q hq => by
  obtain ⟨F, cs, ρ, P, Z, s, re, hw, pe, px⟩ := hq
  refine ⟨F, cs, ρ, _, Z, s, re, hw, fun H1 cs1 v d s1 r1 h1 => ?_, px⟩
  rcases fmt_inv h1 with ⟨y, rfl, h2, h3⟩ | ⟨i, rfl, h2, h3⟩
  · cases r1
    exact .inl ⟨_, rfl, Nat.le_trans h2 (by decide), pe H1 cs1 _ _ s1 (.str _) h3⟩
  · cases r1
    exact .inr ⟨_, rfl, h2, pe H1 cs1 _ _ s1 (.str _) h3⟩
/-- the parts -/
inductive DJ (X : Cx) (W : WX) : List Expr → List DL.WE → Prop
  | nil : DJ X W [] []
  | cons {e : Expr} {we : DL.WE} {es : List Expr} {ws : List DL.WE} (h : DE X W e we) (r : DJ X W es ws) : DJ X W (e :: es) (we :: ws)
theorem DJ.pj {ws : List DL.WE} (h : DJ X W es ws) : PJ X es (ws.map (lE X.K W)) := by
  induction h with
  | nil => exact .nil
  | cons h r ih => exact .cons h ih
def wJs : List DL.WE → Str → Env → Cs → (Str → Cs → Prop) → XZ → Prop
  | [], acc, _, cs, Q, _ => Q acc cs
  | we :: ws, acc, ρ, cs, Q, Z => we ρ cs (fun x cs1 => match x with
    | .str y => (acc ++ y).length ≤ 100000 ∧ wJs ws (acc ++ y) ρ cs1 Q Z
    | _ => False) Z
def wJoined (ws : List DL.WE) : DL.WE := fun ρ cs P Z => wJs ws Str.empty ρ cs (fun y cs1 => P (.str y) cs1) Z
theorem js_ok : ∀ (ws : List DL.WE) (acc : Str) {F : Hp} {cs : Cs} {ρ : DL.Env} {H : Hp} {P : Str → Cs → Prop} {Z : XZ} {Q : Str → Hp → Prop}, Sta K F (pur F cs H) cs H → RepE K (pur F cs H) σ ρ → wJs ws acc ρ cs P Z →
    (∀ H' cs' y, Sta K F (pur F cs H) cs' H' → P y cs' → Q y H') → PostX K F (pur F cs H) Z (fun c d H' => W c d σ H') → tJs (ws.map (lE K W)) acc σ H Q
  | [], acc, F, cs, ρ, H, P, Z, Q, s, re, hw, pe, px => pe H cs acc s hw
  | we :: ws, acc, F, cs, ρ, H, P, Z, Q, s, re, hw, pe, px => by
    refine ⟨F, cs, ρ, _, Z, s, re, hw, fun H1 cs1 v d s1 r1 h1 => ?_, px⟩
    cases d <;> try exact h1.elim
    cases r1
    exact ⟨_, rfl, Nat.le_trans h1.1 (by decide), js_ok ws _ s1.self (re.mono s1.gr) h1.2 (fun H' cs' y s' => pe H' cs' y (s'.from_ s1.gr)) (px.le s1.gr)⟩
theorem d_joined {v1 v2 : Expr} {rest : List Expr} {ws : List DL.WE} (h : DJ X W (v1 :: v2 :: rest) ws) : DE X W (.JoinedStr (v1 :: v2 :: rest) pos) (wJoined ws) := PE.imp (pe_joined h.pj) fun σ H Q hq => by
  obtain ⟨F, cs, ρ, P, Z, s, re, hw, pe, px⟩ := hq
  exact js_ok ws _ s re hw (fun H' cs' y s' hp => pe H' cs' _ _ s' (.str y) hp) px
theorem d_joined1 (h : DE X W e we) : DE X W (.JoinedStr [e] pos) we := pe_joined1 h
end
/-! ### rules -/
section
variable {ρ : DL.Env} {cs : Cs} {P : DP} {Z : XZ} {we wo : DL.WE} {z t : Str}
theorem r_ixS {i : Int} {c : Nat} (hz : z.length ≤ 100000) (e : atI z.cps.toList i = some c) (h : P (sgn c) cs) : oIxS (.str z) (.int i) cs P := ⟨hz, c, e, h⟩
theorem r_slS {lo hi : Option Int} (hz : z.length ≤ 100000) (h : P (.str (cutS z lo hi)) cs) : oSlS (.str z) lo hi cs P := ⟨hz, h⟩
theorem r_catS (hz : z.length + t.length ≤ 100000) (h : P (.str (z ++ t)) cs) : oCatS (.str z) (.str t) cs P := ⟨hz, h⟩
theorem r_inS {c : Nat} (h : P (.bl (decide (c ∈ z.cps.toList))) cs) : oInS (sgn c) (.str z) cs P := ⟨c, rfl, h⟩
theorem r_strI {R : List D → Cs → Prop} (h : we ρ cs (fun d cs1 => match d with | .str z => R (z.cps.toList.map sgn) cs1 | _ => False) Z) : iStrD we ρ cs R Z := h
theorem r_lenS (hz : z.length ≤ 100000) (h : P (.int z.length) cs) : oLenS [.str z] cs P := ⟨hz, h⟩
theorem r_strN {i : Int} (hi : i.natAbs.log2 < 1920) (h : P (.str (toString i : String)) cs) : oStrI [.int i] cs P := ⟨hi, h⟩
theorem r_intS {n : Int} (e : PySem.intText? z = some n) (hz : z.length ≤ 640) (h : P (.int n) cs) : oIntS [.str z] cs P := ⟨n, e, hz, h⟩
theorem r_intB {k : Bool} (h : P (.int (if k then 1 else 0)) cs) : oIntB [.bl k] cs P := h
theorem r_m1 {o : DO2} (h : wo ρ cs (fun x cs1 => (∃ z, x = .str z) ∧ we ρ cs1 (fun y cs2 => o x y cs2 P) Z) Z) : wM1 o wo we ρ cs P Z := h
theorem r_isStr {R : Prop} (h : R) : (∃ z', D.str z = .str z') ∧ R := ⟨⟨_, rfl⟩, h⟩
theorem r_joinS {ns : List Str} {xs : List D} (e : strsOf xs = some ns) (hz : (ns.map (·.length)).sum + ns.length * z.length ≤ 100000) (h : P (.str (Str.join z ns)) cs) : oJoin (.str z) (.lst xs) cs P := ⟨ns, e, hz, h⟩
theorem r_partn (h1 : (t.length == 0) = false) (hz : z.length ≤ 100000) (h : P (.tup [.str (Txt.partition z t).1, .str (Txt.partition z t).2.1, .str (Txt.partition z t).2.2]) cs) : oPartn (.str z) (.str t) cs P := ⟨h1, hz, h⟩
theorem r_splitS (h1 : (t.length == 0) = false) (hz : z.length ≤ 100000) (h : P (.lst ((Txt.split z t).map D.str)) cs) : oSplitS (.str z) (.str t) cs P := ⟨h1, hz, h⟩
theorem r_fmt (h : we ρ cs (fun x cs1 => match x with
  | .str y => y.length ≤ 100000 ∧ P (.str y) cs1
  | .int i => i.natAbs.log2 < 1920 ∧ P (.str (toString i : String)) cs1
  | _ => False) Z) : wFmt we ρ cs P Z := h
theorem r_joined {ws : List DL.WE} (h : wJs ws Str.empty ρ cs (fun y cs1 => P (.str y) cs1) Z) : wJoined ws ρ cs P Z := h
theorem r_jsC {ws : List DL.WE} {acc : Str} {Q : Str → Cs → Prop} (h : we ρ cs (fun x cs1 => match x with
    | .str y => (acc ++ y).length ≤ 100000 ∧ wJs ws (acc ++ y) ρ cs1 Q Z
    | _ => False) Z) : wJs (we :: ws) acc ρ cs Q Z := h
theorem r_jsN {acc : Str} {Q : Str → Cs → Prop} (h : Q acc cs) : wJs [] acc ρ cs Q Z := h
end
/-! ### numbers written -/
def numT (i : Int) : Str := Str.ofString (toString i)
theorem tl_numN (n : Nat) : TL.tl (numT n) = TL.numL n := TL.tl_num n
theorem tl_numNeg {n : Nat} (h : n ≠ 0) : TL.tl (numT (-(n : Int))) = 45 :: TL.numL n := by
  obtain ⟨k, rfl⟩ : ∃ k, n = k + 1 := ⟨n - 1, by omega⟩
  have e : toString (-((k + 1 : Nat) : Int)) = "-" ++ toString (((k + 1 : Nat) : Int)) := rfl
  have e2 : TL.tl (numT (-((k + 1 : Nat) : Int))) = ("-" ++ toString (((k + 1 : Nat) : Int))).toList.map Char.toNat := by
    show TL.tl (Str.ofString (toString (-((k + 1 : Nat) : Int)))) = _
    rw [e, TL.tl_ofString]
  rw [e2, String.toList_append, List.map_append, ← TL.tl_ofString, ← TL.tl_ofString, TL.tl_num]
  rfl
theorem numL_len10 {n k : Nat} (hk : 0 < k) (h : n < 10 ^ k) : (TL.numL n).length ≤ k := TL.numL_len hk h
theorem len_tl (x : Str) : x.length = (TL.tl x).length := TL.len_tl x
theorem numT_len {a : Int} {k : Nat} (hk : 0 < k) (h : a.natAbs < 10 ^ k) : (numT a).length ≤ k + 1 := by
  rw [len_tl]
  by_cases h0 : 0 ≤ a
  · obtain ⟨n, rfl⟩ : ∃ n : Nat, a = n := ⟨a.toNat, by omega⟩
    rw [tl_numN]
    have := numL_len10 hk (show n < 10 ^ k by simpa using h)
    omega
  · obtain ⟨n, rfl, hn⟩ : ∃ n : Nat, a = -(n : Int) ∧ n ≠ 0 := ⟨a.natAbs, by omega, by omega⟩
    rw [tl_numNeg hn, List.length_cons]
    have := numL_len10 hk (show n < 10 ^ k by simpa using h)
    omega
theorem log_of {a : Int} {n : Nat} (h : a.natAbs < 2 ^ n) (hn : n ≤ 1900) : a.natAbs.log2 < 1920 := by
  by_cases h0 : a.natAbs = 0
  · rw [h0]; decide
  · exact Nat.lt_of_lt_of_le ((Nat.log2_lt h0).mpr h) (by omega)
theorem pow_1900 : (2 : Nat) ^ 1900 < 10 ^ 600 := by decide +kernel
theorem numT_sz {a : Int} (h : a.natAbs < 2 ^ 1900) : (numT a).length ≤ 601 := numT_len (by decide) (Nat.lt_trans h pow_1900)
/-- a part's text -/
def txtR (r : Rat) : Str := if (r.den : Int) = 1 then numT r.num else numT r.num ++ "/" ++ numT (r.den : Int)
/-- figures: as many as m at most, no needless nought -/
structure FigOk (l : List Nat) (m : Nat) : Prop where
  ne : l ≠ []
  len : l.length ≤ m
  dig : NumText.AllDigits l
  hd : l.head? = some 48 → l.length = 1
theorem numL_hd : ∀ n : Nat, (TL.numL n).head? = some 48 → n = 0 := by
  intro n
  induction n using Nat.strongRecOn with
  | _ n ih =>
    by_cases h : n < 10
    · rw [TL.numL_lt h]
      intro e
      have e2 : 48 + n = 48 := by simpa using e
      omega
    · rw [TL.numL_step (by omega)]
      intro e
      have hne := TL.numL_ne (n / 10)
      have e2 : (TL.numL (n / 10)).head? = some 48 := by
        cases hq : TL.numL (n / 10) with
        | nil => exact absurd hq hne
        | cons c r => rw [hq] at e; simpa using e
      have := ih (n / 10) (by omega) e2
      omega
theorem figOk_num {n m : Nat} (h : (TL.numL n).length ≤ m) : FigOk (TL.numL n) m :=
  ⟨TL.numL_ne n, h, TL.numL_digits n, fun e => by rw [numL_hd n e]; rfl⟩
theorem dig_iff (c : Nat) : c ∈ (Str.ofString "0123456789").cps.toList ↔ 48 ≤ c ∧ c ≤ 57 := by
  rw [show (Str.ofString "0123456789").cps.toList = [48, 49, 50, 51, 52, 53, 54, 55, 56, 57] by decide +kernel]
  simp only [List.mem_cons, List.not_mem_nil, or_false]
  omega
theorem sgn_eq (c d : Nat) : eqD (sgn c) (sgn d) = decide (c = d) := by
  show ((⟨#[c]⟩ : Str) == ⟨#[d]⟩) = decide (c = d)
  by_cases h : c = d
  · rw [h, decide_eq_true rfl]; exact beq_self_eq_true _
  · rw [decide_eq_false h]
    refine beq_false_of_ne fun e => h ?_
    have e2 := congrArg (fun s : Str => s.cps.toList) e
    simpa using e2
theorem r_eqSgn {c : Nat} {z : Str} {cs : Cs} {P : DP} (d : Nat) (hz : z = ⟨#[d]⟩) (h : P (.bl (decide (c = d))) cs) : oEq (sgn c) (.str z) cs P := by
  subst hz
  exact ⟨rfl, rfl, by rw [sgn_eq]; exact h⟩
theorem atI0 {c : Nat} {l r : List Nat} (h : l = c :: r) : atI l 0 = some c := by
  subst h
  unfold atI ixN
  simp
theorem sgn_iff {c d : Nat} {z : Str} (hz : z = ⟨#[d]⟩) : (⟨#[c]⟩ : Str) = z ↔ c = d := by
  subst hz
  refine ⟨fun e => ?_, fun e => by rw [e]⟩
  have e2 := congrArg (fun s : Str => s.cps.toList) e
  simpa using e2
theorem zero_sgn : (Str.ofString "0") = ⟨#[48]⟩ := by decide +kernel
/-! ### c * n -/
section
variable {X : Cx} {W : WX} {K : PySem.W.Frag} {σ : L2.St} {H : Hp} {a b : Expr} {wa wb : DL.WE} {pos : Pos}
theorem fold_rep (c : Nat) : ∀ (n : Nat) (a : Array Nat), ((List.replicate n #[c]).foldl (· ++ ·) a) = (a.toList ++ List.replicate n c).toArray
  | 0, a => by simp
  | n + 1, a => by
    rw [List.replicate_succ, List.foldl_cons, fold_rep c n]
    simp [List.replicate_succ]
def rMulS : R2 := fun x y H Q => ∃ (c n : Nat), x = .str ⟨#[c]⟩ ∧ y = .int (n : Int) ∧ 2 ≤ n ∧ n ≤ 1000 ∧ Q (.str ⟨(List.replicate n c).toArray⟩) H
theorem op_mulS : OpR X (binaryOp .Mult) rMulS := by
  intro pins s σ H x y v u Q I rx ry h
  obtain ⟨c, n, rfl, rfl, h2, hn, q⟩ := h
  obtain ⟨t, rfl⟩ := rx
  obtain ⟨t', rfl⟩ := ry
  refine PySem.P.mul_str (by rw [decide_eq_false (by omega), decide_eq_false (by omega)]; rfl) (fun _ _ z => ?_) (fun _ _ => ?_) ?_
  · have e : ((⟨#[c]⟩ : Str).length : Int) = 1 := rfl
    rw [e] at z
    have : (1 : Int) ≤ (2 ^ 63 - 1) / (n : Int) := (Int.le_ediv_iff_mul_le (by omega)).mpr (by omega)
    omega
  · show Builtin.Str.tooLong (1 * ((n : Int)).toNat) = false
    rw [Nat.one_mul, Int.toNat_natCast]
    exact decide_eq_false (Nat.not_lt.mpr (small_es hn))
  · rw [if_neg (by omega), if_neg (by
      have h1 : ((n : Int) == 1) = false := beq_false_of_ne (by omega)
      rw [h1]
      have h2 : ((⟨#[c]⟩ : Str).length == 0) = false := rfl
      rw [h2]; decide)]
    have e : (⟨(List.replicate ((n : Int)).toNat (#[c] : Array Nat)).foldl (· ++ ·) #[]⟩ : Str) = ⟨(List.replicate n c).toArray⟩ := by
      rw [Int.toNat_natCast, fold_rep]; rfl
    rw [e]
    exact ⟨by
      show ((List.replicate n c).toArray).size ≤ sizeLine
      rw [List.size_toArray, List.length_replicate]
      exact small_es hn, .str _, H, I.tok _, ⟨_, rfl⟩, q⟩
def oMulS : DO2 := fun x y cs P => ∃ (c n : Nat), x = sgn c ∧ y = .int (n : Int) ∧ 2 ≤ n ∧ n ≤ 1000 ∧ P (.str ⟨(List.replicate n c).toArray⟩) cs
theorem adq_mulS : Adq K rMulS oMulS := fun F cs H x y dx dy P Q s rx ry ho pe => by
  obtain ⟨c, n, rfl, rfl, h2, hn, h⟩ := ho
  cases rx
  cases ry
  exact ⟨c, n, rfl, rfl, h2, hn, pe H cs _ _ s (.str _) h⟩
theorem d_mulS (ha : DE X W a wa) (hb : DE X W b wb) : DE X W (.BinOp a .Mult b pos) (wOp oMulS wa wb) := d_op op_mulS adq_mulS ha hb
end
/-! ### names -/
/-- small letters, one to eight -/
structure LowOk (x : Str) : Prop where
  l0 : 1 ≤ x.length
  l1 : x.length ≤ 8
  low : ∀ c ∈ TL.tl x, 97 ≤ c ∧ c ≤ 122
def mkS (l : List Nat) : Str := ⟨l.toArray⟩
theorem tl_mkS (l : List Nat) : TL.tl (mkS l) = l := rfl
theorem joinL_nil : ∀ l : List Nat, TL.joinL [] (l.map fun c => [c]) = l
  | [] => rfl
  | [c] => rfl
  | c :: d :: r => by
    have ih := joinL_nil (d :: r)
    show [c] ++ [] ++ TL.joinL [] ((d :: r).map fun c => [c]) = _
    rw [ih]; rfl
theorem join_sgn (l : List Nat) : Str.join (Str.ofString "") (l.map fun c => (⟨#[c]⟩ : Str)) = mkS l := by
  refine TL.ext_tl ?_
  rw [TL.tl_join, List.map_map, tl_mkS]
  have e : TL.tl (Str.ofString "") = [] := by decide +kernel
  rw [e]
  exact joinL_nil l
theorem strsOf_sgn : ∀ l : List Nat, strsOf (l.map sgn) = some (l.map fun c => (⟨#[c]⟩ : Str))
  | [] => rfl
  | c :: l => by rw [List.map_cons]; unfold strsOf; rw [strsOf_sgn l]; rfl
theorem sum_sgn (l : List Nat) : ((l.map fun c => (⟨#[c]⟩ : Str)).map (·.length)).sum = l.length := by
  induction l with
  | nil => rfl
  | cons c l ih => rw [List.map_cons, List.map_cons, List.sum_cons, ih, List.length_cons]; show 1 + _ = _; omega
def lettersS : Str := Str.ofString "abcdefghijklmnopqrstuvwxyz"
theorem tl_letters : TL.tl lettersS = (List.range 26).map (97 + ·) := by decide +kernel
theorem letter_at {g : Int} (h0 : 0 ≤ g) (h1 : g < 26) : atI lettersS.cps.toList g = some (97 + g.toNat) := by
  rw [show lettersS.cps.toList = (List.range 26).map (97 + ·) from tl_letters]
  unfold atI ixN
  rw [if_pos h0, if_pos (by rw [List.length_map, List.length_range]; exact h1)]
  show ((List.range 26).map (97 + ·))[g.toNat]? = _
  rw [List.getElem?_map, List.getElem?_range (by omega)]
  rfl
/-- so many names, no two alike -/
structure NamesOk (ns : List Str) (m : Nat) : Prop where
  len : ns.length = m
  nd : ns.Nodup
  ok : ∀ x ∈ ns, LowOk x
theorem step_ne {s : Int} (hs : s ∈ ([1, 3, 5, 7, 9, 11, 15, 25] : List Int)) {d : Nat} (h0 : 0 < d) (h1 : d < 26) : (s * d) % 26 ≠ 0 := by
  have key : (([1, 3, 5, 7, 9, 11, 15, 25] : List Int).all fun s => (List.range 26).all fun d => d == 0 || decide ((s * (d : Int)) % 26 ≠ 0)) = true := by decide +kernel
  have k2 := List.all_eq_true.mp (List.all_eq_true.mp key s hs) d (List.mem_range.mpr h1)
  rw [Bool.or_eq_true] at k2
  rcases k2 with k2 | k2
  · have := beq_iff_eq.mp k2; omega
  · exact of_decide_eq_true k2
theorem nodup_at {ns : List Str} {pl : Nat} {b s : Int} (hs : s ∈ ([1, 3, 5, 7, 9, 11, 15, 25] : List Int)) (hl : ns.length ≤ 26)
    (h : ∀ (i : Nat) (x : Str), ns[i]? = some x → (TL.tl x)[pl]? = some (97 + ((b + s * (i : Int)) % 26).toNat)) : ns.Nodup := by
  rw [List.nodup_iff_pairwise_ne, List.pairwise_iff_getElem]
  intro i j hi hj hij e
  have h1 := h i ns[i] (List.getElem?_eq_getElem hi)
  have h2 := h j ns[j] (List.getElem?_eq_getElem hj)
  rw [e, h2] at h1
  have h3 := Option.some.inj h1
  have hz := step_ne hs (d := j - i) (by omega) (by omega)
  have e1 : s * ((j - i : Nat) : Int) = s * (j : Int) - s * (i : Int) := by
    rw [show ((j - i : Nat) : Int) = (j : Int) - (i : Int) by omega, Int.mul_sub]
  rw [e1] at hz
  generalize s * (j : Int) = u at *
  generalize s * (i : Int) = v at *
  omega
end DL

/-! DLZl: list(zip(a, b)) of two lists, as a value; dict(pairs). -/
namespace DL
open PySem
open PySem.Sem (wp)
theorem zip_nolen : typeLookup (.type "zip") "__len__" = pure none := by rw [typeLookup_type, builtinLookup_eq_fast]; kernel_rfl
theorem zip_nohint : typeLookup (.type "zip") "__length_hint__" = pure none := by rw [typeLookup_type, builtinLookup_eq_fast]; kernel_rfl
/-- a zip of two lists after i turns, its pairs kept by others -/
structure ZlSt (h : Heap) (z TI TO i1 i2 l1 l2 S : Addr) (xs ys : Array Value) (i : Nat) : Prop where
  pTI : IsPair h TI (.ref i1) (.ref i2)
  p1 : h.IsListIter i1 l1 i
  p2 : h.IsListIter i2 l2 i
  q1 : h.IsList l1 xs
  q2 : h.IsList l2 ys
  pz : (IsZip h z TI TO .none ∧ ∃ a b, IsPair h TO a b) ∨ ∃ T f oT, IsZipHeld h z TI TO T f ∧ h.get? T = some oT ∧ T ≠ z ∧ T ≠ i1 ∧ T ≠ i2 ∧ T ≠ S
/-- the pairs' places, one behind the other -/
structure ZlG (xs ys : Array Value) (lo : Addr) (h : Heap) (as : List Addr) : Prop where
  rise : as.Pairwise (· < ·)
  above : ∀ a ∈ as, lo < a
  pairs : ∀ (j : Nat) (a : Addr), as[j]? = some a → ∃ x y, xs[j]? = some x ∧ ys[j]? = some y ∧ IsPair h a x y
theorem ZlG.there {xs ys : Array Value} {lo : Addr} {h : Heap} {as : List Addr} (g : ZlG xs ys lo h as) {a : Addr} (ha : a ∈ as) : a < h.objs.size := by
  obtain ⟨j, hj⟩ := List.mem_iff_getElem?.mp ha
  obtain ⟨_, _, _, _, e⟩ := g.pairs j a hj
  exact Heap.lt_size e
section
variable {prog : Program} {w : World} {A : Around} {E : Value → Shared → Prop} {s : Shared} {z TI TO i1 i2 l1 l2 S : Addr} {xs ys : Array Value} {i : Nat}
theorem ZlSt.keep {h h' : Heap} (st : ZlSt h z TI TO i1 i2 l1 l2 S xs ys i) (hk : ∀ b o, b ≠ S → h.get? b = some o → h'.get? b = some o) (hS : ∀ c ∈ [z, TI, TO, i1, i2, l1, l2], S ≠ c) : ZlSt h' z TI TO i1 i2 l1 l2 S xs ys i := by
  obtain ⟨hTI, h1, h2, hl1, hl2, hz⟩ := st
  refine ⟨hk _ _ (hS TI (by simp)).symm hTI, h1.at fun o e => hk _ o (hS i1 (by simp)).symm e, h2.at fun o e => hk _ o (hS i2 (by simp)).symm e, hl1.at fun o e => hk _ o (hS l1 (by simp)).symm e, hl2.at fun o e => hk _ o (hS l2 (by simp)).symm e, ?_⟩
  rcases hz with ⟨hz, a, b, hTO⟩ | ⟨T, f, oT, hz, hT, r1, r2, r3, r4⟩
  · exact .inl ⟨hk _ _ (hS z (by simp)).symm hz, a, b, hk _ _ (hS TO (by simp)).symm hTO⟩
  · exact .inr ⟨T, f, oT, hk _ _ (hS z (by simp)).symm hz, hk _ _ r4 hT, r1, r2, r3, r4⟩
theorem zl_item {x y : Value} {Q : Option Value → Shared → Prop} (D : ZipApart z TI TO i1 i2 l1 l2) (st : ZlSt s.heap z TI TO i1 i2 l1 l2 S xs ys i) (hS : S < s.heap.objs.size) (ex : xs[i]? = some x) (ey : ys[i]? = some y)
    (hQ : ∀ h', ZlSt h' z TI TO i1 i2 l1 l2 S xs ys (i + 1) → IsPair h' s.heap.objs.size x y → h'.objs.size = s.heap.objs.size + 1 →
      (∀ c o, c ≠ z → c ≠ TO → c ≠ i1 → c ≠ i2 → s.heap.get? c = some o → h'.get? c = some o) → Q (some (.ref s.heap.objs.size)) { s with heap := h' }) :
    wpAny (model prog w) A (pyNext (.ref z)) Q E s := by
  obtain ⟨hTI, h1, h2, hl1, hl2, hz⟩ := st
  have lt : ∀ {c o}, s.heap.get? c = some o → s.heap.objs.size ≠ c := fun e => Nat.ne_of_gt (Heap.lt_size e)
  have n1 : s.heap.objs.size ≠ i1 := let ⟨_, e, _⟩ := h1; lt e
  have n2 : s.heap.objs.size ≠ i2 := let ⟨_, e, _⟩ := h2; lt e
  rcases hz with ⟨hz, a, b, hTO⟩ | ⟨T, f, oT, hz, hT, r1, r2, r3, r4⟩
  · refine wpAny_pyNext_zip_item D hz hTI hTO h1 h2 hl1 hl2 ex ey fun h' a1 a2 a3 a4 a5 a6 hk => ?_
    exact hQ h' ⟨hk _ _ D.TIz D.TITO D.TIi1 D.TIi2 hTI, a3, a4, hl1.at fun o e => hk _ o D.l1z D.l1TO D.l1i1 D.l1i2 e, hl2.at fun o e => hk _ o D.l2z D.l2TO D.l2i1 D.l2i2 e,
      .inr ⟨s.heap.objs.size, false, _, a1, a5, lt hz, n1, n2, Nat.ne_of_gt hS⟩⟩ a5 a6 hk
  · refine wpAny_pyNext_zip_item_held D hz hT hTI h1 h2 hl1 hl2 ex ey fun h' a1 a3 a4 a5 a6 hk => ?_
    exact hQ h' ⟨hk _ _ D.TIz D.TIi1 D.TIi2 hTI, a3, a4, hl1.at fun o e => hk _ o D.l1z D.l1i1 D.l1i2 e, hl2.at fun o e => hk _ o D.l2z D.l2i1 D.l2i2 e,
      .inr ⟨T, true, oT, a1, hk _ _ r1 r2 r3 hT, r1, r2, r3, r4⟩⟩ a5 a6 fun c o c1 _ c3 c4 e => hk c o c1 c3 c4 e
theorem zl_done {Q : Option Value → Shared → Prop} (hh : A.handled = none) (D : ZipApart z TI TO i1 i2 l1 l2) (st : ZlSt s.heap z TI TO i1 i2 l1 l2 S xs ys i) (hend : xs[i]? = none ∨ ys[i]? = none)
    (hQ : ∀ h', (∀ c o, c ≠ z → c ≠ TO → c ≠ i1 → c ≠ i2 → s.heap.get? c = some o → h'.get? c = some o) → Q none { s with heap := h' }) : wpAny (model prog w) A (pyNext (.ref z)) Q E s := by
  obtain ⟨hTI, h1, h2, hl1, hl2, hz⟩ := st
  rcases hz with ⟨hz, a, b, hTO⟩ | ⟨T, f, oT, hz, hT, r1, r2, r3, r4⟩
  · exact wpAny_pyNext_zip_end hh D hz hTI hTO h1 h2 hl1 hl2 hend hQ
  · exact wpAny_pyNext_zip_end_held hh D hz hT hTI h1 h2 hl1 hl2 hend fun h' hk => hQ h' fun c o c1 _ c3 c4 e => hk c o c1 c3 c4 e
theorem zl_loop {R : Result → Shared → Prop} (hh : A.handled = none) (D : ZipApart z TI TO i1 i2 l1 l2) (hS : ∀ c ∈ [z, TI, TO, i1, i2, l1, l2], S ≠ c) (hlow : ∀ c ∈ [z, TO, i1, i2], c < S) (hn : min xs.size ys.size ≤ sizeLine) (res : Value) {h₁ : Heap}
    (hR : ∀ h' tk acc c as, (∀ b o, b ≠ S → b ≠ z → b ≠ TO → b ≠ i1 → b ≠ i2 → h₁.get? b = some o → h'.get? b = some o) → h'.get? S = some { cls := .type "list", dict := none, data := .seq acc c, slots := #[] } → as.length = min xs.size ys.size → ZlG xs ys S h' as →
      acc.toList = as.map Value.ref → R (.ok (.ret res)) { s with heap := h', toks := tk }) :
    ∀ (k i : Nat) (h : Heap) (tk c : Nat) (acc : Array Value) (as : List Addr), min xs.size ys.size - i = k → i ≤ min xs.size ys.size → ZlSt h z TI TO i1 i2 l1 l2 S xs ys i → (∀ b o, b ≠ S → b ≠ z → b ≠ TO → b ≠ i1 → b ≠ i2 → h₁.get? b = some o → h.get? b = some o) →
      h.get? S = some { cls := .type "list", dict := none, data := .seq acc c, slots := #[] } → acc.toList = as.map Value.ref → as.length = i → ZlG xs ys S h as →
      codeAny (model prog w) A (.builtin "list.extend.loop" ⟨[.ref S, .ref z, res], []⟩) R { s with heap := h, toks := tk } := by
  intro k
  have Sz : S ≠ z := hS z (by simp)
  have STO : S ≠ TO := hS TO (by simp)
  have S1 : S ≠ i1 := hS i1 (by simp)
  have S2 : S ≠ i2 := hS i2 (by simp)
  induction k with
  | zero =>
    intro i h tk c acc as hk hi hst hkeep hSh hacc hal hG
    refine codeAny_builtin PySem.F.entry_extend_loop ?_
    rw [Around.under_plainId PySem.F.plain_extend_loop _]
    show wpAny _ A.in1 (pyNext (.ref z) >>= _) _ _ _
    have hend : xs[i]? = none ∨ ys[i]? = none := by
      by_cases q : xs.size ≤ i
      · exact .inl (Array.getElem?_eq_none q)
      · exact .inr (Array.getElem?_eq_none (by omega))
    refine wpAny_bind (zl_done (s := { s with heap := h, toks := tk }) (A := A.in1) hh D hst hend fun h' he => ?_)
    have hlo : ∀ a ∈ as, ∀ c ∈ [z, TO, i1, i2], a ≠ c := fun a ha c hc e => by
      have q1 := hG.above a ha
      have q2 := hlow c hc
      rw [e] at q1
      exact absurd q1 (Nat.not_lt.mpr (Nat.le_of_lt q2))
    refine wpAny_pure (hR h' tk acc c as (fun b o b0 b1 b2 b3 b4 e => he b o b1 b2 b3 b4 (hkeep b o b0 b1 b2 b3 b4 e)) (he S _ Sz STO S1 S2 hSh) (by omega) ⟨hG.rise, hG.above, fun j a hj => ?_⟩ hacc)
    obtain ⟨x, y, e1, e2, e3⟩ := hG.pairs j a hj
    have ha := List.mem_of_getElem? hj
    exact ⟨x, y, e1, e2, he a _ (hlo a ha z (by simp)) (hlo a ha TO (by simp)) (hlo a ha i1 (by simp)) (hlo a ha i2 (by simp)) e3⟩
  | succ k ih =>
    intro i h tk c acc as hk hi hst hkeep hSh hacc hal hG
    have hlt : i < min xs.size ys.size := by omega
    have ex : xs[i]? = some xs[i] := Array.getElem?_eq_getElem (by omega)
    have ey : ys[i]? = some ys[i] := Array.getElem?_eq_getElem (by omega)
    have hsz : acc.size = i := by rw [← Array.length_toList, hacc, List.length_map, hal]
    refine codeAny_builtin PySem.F.entry_extend_loop ?_
    rw [Around.under_plainId PySem.F.plain_extend_loop _]
    show wpAny _ A.in1 (pyNext (.ref z) >>= _) _ _ _
    refine wpAny_bind (zl_item (s := { s with heap := h, toks := tk }) D hst (Heap.lt_size hSh) ex ey fun h' hst' ht hz hkp => ?_)
    dsimp only at ht hz hkp ⊢
    have hSh' := hkp S _ Sz STO S1 S2 hSh
    have up : ∀ b o, b ≠ S → h'.get? b = some o → (h'.update S (Obj.mapSeq (·.push (Value.ref h.objs.size)))).get? b = some o := fun b o hb e => (Heap.get?_update_other _ _ (Ne.symm hb)).trans e
    have hSl : S < h.objs.size := Heap.lt_size hSh
    show wpAny _ A.in1 (updateSeq S (·.push (Value.ref h.objs.size)) >>= _) _ _ _
    refine wpAny_bind ?_
    refine wpAny_updateSeq hSh' rfl (wpAny_pure ⟨plainId_quiet PySem.F.plain_extend_loop _, ih (i + 1) _ tk _ (acc.push (Value.ref h.objs.size)) (as ++ [h.objs.size]) (by omega) hlt (hst'.keep up hS)
      (fun b o b0 b1 b2 b3 b4 e => up b o b0 (hkp b o b1 b2 b3 b4 (hkeep b o b0 b1 b2 b3 b4 e))) (Heap.get?_update_self _ hSh' rfl) (by rw [Array.toList_push, hacc, List.map_append]; rfl) (by rw [List.length_append, hal]; rfl) ⟨?_, ?_, ?_⟩⟩) (by rw [hsz]; omega) (by show (acc.push (Value.ref h.objs.size)).size ≤ sizeLine + 1; rw [Array.size_push, hsz]; omega)
    · refine List.pairwise_append.mpr ⟨hG.rise, List.pairwise_singleton _ _, fun a ha b hb => ?_⟩
      rw [List.mem_singleton.mp hb]
      exact hG.there ha
    · intro a ha
      rcases List.mem_append.mp ha with ha | ha
      · exact hG.above a ha
      · rw [List.mem_singleton.mp ha]; exact hSl
    · intro j b hj
      rcases Nat.lt_trichotomy j as.length with h1 | h1 | h1
      · rw [List.getElem?_append_left h1] at hj
        obtain ⟨x', y', e1, e2, e3⟩ := hG.pairs j b hj
        have hb := hG.above b (List.mem_of_getElem? hj)
        have ne : ∀ c ∈ [z, TO, i1, i2], b ≠ c := fun c hc e => by
          have q2 := hlow c hc
          rw [e] at hb
          exact absurd hb (Nat.not_lt.mpr (Nat.le_of_lt q2))
        exact ⟨x', y', e1, e2, up b _ (Nat.ne_of_gt hb) (hkp b _ (ne z (by simp)) (ne TO (by simp)) (ne i1 (by simp)) (ne i2 (by simp)) e3)⟩
      · subst h1
        have hb : h.objs.size = b := by simpa using hj
        subst hb
        exact ⟨_, _, by rw [hal]; exact ex, by rw [hal]; exact ey, up _ _ (Nat.ne_of_gt hSl) ht⟩
      · have hnone : (as ++ [h.objs.size])[j]? = none := List.getElem?_eq_none (by rw [List.length_append, List.length_singleton]; omega)
        rw [hnone] at hj; cases hj
theorem zl_extend {R : Result → Shared → Prop} (hh : A.handled = none) (D : ZipApart z TI TO i1 i2 l1 l2) (hS : ∀ c ∈ [z, TI, TO, i1, i2, l1, l2], S ≠ c) (hlow : ∀ c ∈ [z, TO, i1, i2], c < S) (st : ZlSt s.heap z TI TO i1 i2 l1 l2 S xs ys 0) (hz0 : IsZip s.heap z TI TO .none) (res : Value) (c₀ : Nat) (hSh : s.heap.get? S = some { cls := .type "list", data := .seq #[] c₀ })
    (hR : ∀ h' tk acc c as, (∀ b o, b ≠ S → b ≠ z → b ≠ TO → b ≠ i1 → b ≠ i2 → s.heap.get? b = some o → h'.get? b = some o) → h'.get? S = some { cls := .type "list", dict := none, data := .seq acc c, slots := #[] } → as.length = min xs.size ys.size → ZlG xs ys S h' as →
      acc.toList = as.map Value.ref → R (.ok (.ret res)) { s with heap := h', toks := tk }) (hn : min xs.size ys.size ≤ sizeLine) :
    wpAny (model prog w) A.in1 (Builtin.List.listExtendWith (.ref S) (.ref z) res)
      (fun fin s' => match fin with | .done f => R (.ok f) s' | .again c' => c'.quiet = true ∧ codeAny (model prog w) A c' R s') (fun e s' => R (.error e) s') s := by
  have Sz : S ≠ z := hS z (by simp)
  have hT : s.TypeIs (.ref z) "zip" := ⟨_, hz0, rfl⟩
  have key : ∀ (h : Heap) (c₁ tk : Nat), (∀ b o, b ≠ S → s.heap.get? b = some o → h.get? b = some o) →
      h.get? S = some { cls := .type "list", data := .seq #[] c₁ } → codeAny (model prog w) A (.builtin "list.extend.loop" ⟨[.ref S, .ref z, res], []⟩) R { s with heap := h, toks := tk } := by
    intro h c₁ tk hk hS₁
    exact zl_loop (s := s) (h₁ := s.heap) hh D hS hlow hn res hR _ 0 h tk c₁ #[] [] rfl (Nat.zero_le _) (st.keep hk hS) (fun b o b0 _ _ _ _ e => hk b o b0 e) hS₁ rfl rfl ⟨List.Pairwise.nil, (fun _ ha => nomatch ha), (fun j a hj => by simp at hj)⟩
  unfold Builtin.List.listExtendWith
  refine wpAny_bind (wpAny_typeOf hT ?_)
  have h1 : Builtin.List.listSameRef (.ref S) (.ref z) = false := by simp [Builtin.List.listSameRef, Sz]
  have h2 : (Value.type "zip" == Value.type "list") = false := by decide
  have h3 : (Value.type "zip" == Value.type "tuple") = false := by decide
  simp only [h1, h2, h3, Bool.or_false, Bool.false_eq_true, if_false]
  refine wpAny_bind (wpAny_pyIter_zip hz0 ?_)
  refine wpAny_bind (wpAny_holding ?_)
  unfold Builtin.List.listLengthHint
  refine wpAny_bind (wpAny_specialOf hT zip_nolen ?_)
  show wpAny _ A.in1 (specialOf (Value.ref z) (Str.ofString "__length_hint__") >>= _) _ _ _
  refine wpAny_bind (wpAny_specialOf hT zip_nohint ?_)
  refine wpAny_pure ?_
  show wpAny _ A.in1 (rule "list.extend.makes-room" >>= fun _ => Builtin.List.listTouch (.ref S) >>= fun _ =>
    again (.builtin "list.extend.loop" ⟨[.ref S, .ref z, res], []⟩)) _ _ _
  refine wpAny_bind (wpAny_rule ?_)
  refine wpAny_bind ?_
  show wpAny _ A.in1 (updateSeq S (·.push .none) >>= fun _ => updateSeq S (·.pop)) _ _ _
  refine wpAny_bind (wpAny_updateSeq hSh rfl ?_)
  have hS₂ := Heap.get?_update_self (Obj.mapSeq (·.push Value.none)) hSh rfl
  refine wpAny_updateSeq (hz := by seq_fits) hS₂ rfl ?_
  have hS₃ := Heap.get?_update_self (Obj.mapSeq (·.pop)) hS₂ rfl
  refine wpAny_pure ⟨plainId_quiet PySem.F.plain_extend_loop _, key _ _ _ (fun b o hb e => ?_) hS₃⟩
  exact (Heap.get?_update_other _ _ (Ne.symm hb)).trans ((Heap.get?_update_other _ _ (Ne.symm hb)).trans e)
theorem zl_init {R : Result → Shared → Prop} (hh : A.handled = none) (D : ZipApart z TI TO i1 i2 l1 l2) (hS : ∀ c ∈ [z, TI, TO, i1, i2, l1, l2], S ≠ c) (hlow : ∀ c ∈ [z, TO, i1, i2], c < S) (st : ZlSt s.heap z TI TO i1 i2 l1 l2 S xs ys 0) (hz0 : IsZip s.heap z TI TO .none) (hSh : s.heap.get? S = some { cls := .type "list", data := .seq #[] })
    (hR : ∀ h' tk acc c as, (∀ b o, b ≠ S → b ≠ z → b ≠ TO → b ≠ i1 → b ≠ i2 → s.heap.get? b = some o → h'.get? b = some o) → h'.get? S = some { cls := .type "list", dict := none, data := .seq acc c, slots := #[] } → as.length = min xs.size ys.size → ZlG xs ys S h' as →
      acc.toList = as.map Value.ref → R (.ok (.ret .none)) { s with heap := h', toks := tk }) (hn : min xs.size ys.size ≤ sizeLine) :
    wpAny (model prog w) A.in1 (Builtin.«list.__init__» ⟨[.ref S, .ref z], []⟩)
      (fun fin s' => match fin with | .done f => R (.ok f) s' | .again c' => c'.quiet = true ∧ codeAny (model prog w) A c' R s') (fun e s' => R (.error e) s') s := by
  show wpAny _ _ (do let old ← Builtin.List.listItems (.ref S); Builtin.List.listUpdate (.ref S) (fun _ => #[]); letGo old.toList.reverse; Builtin.List.listExtendWith (.ref S) (.ref z) .none) _ _ s
  refine wpAny_bind ?_
  unfold Builtin.List.listItems
  refine wpAny_bind (wpAny_seqItems hSh rfl (wpAny_pure ?_))
  show wpAny _ _ (updateSeq S (fun _ => #[]) >>= fun _ => letGo (#[] : Array Value).toList.reverse >>= fun _ => Builtin.List.listExtendWith (.ref S) (.ref z) .none) _ _ s
  refine wpAny_bind (wpAny_updateSeq hSh rfl ?_)
  have hS₂ := Heap.get?_update_self (Obj.mapSeq (fun _ => (#[] : Array Value))) hSh rfl
  have oth : ∀ b o, b ≠ S → s.heap.get? b = some o → (s.heap.update S (Obj.mapSeq (fun _ => (#[] : Array Value)))).get? b = some o :=
    fun b o hb e => (Heap.get?_update_other _ _ (Ne.symm hb)).trans e
  refine wpAny_bind (wpAny_letGo ?_)
  exact zl_extend hh D hS hlow (st.keep oth hS) (oth _ _ (hS z (by simp)).symm hz0) .none _ hS₂ (fun h' tk acc c as hk hS' hl hG hacc => hR h' tk acc c as (fun b o b0 b1 b2 b3 b4 e => hk b o b0 b1 b2 b3 b4 (oth b o b0 e)) hS' hl hG hacc) hn
/-- list(z) of a zip that has not begun -/
theorem zl_call {Q : Value → Shared → Prop} (hh : A.handled = none) (D : ZipApart z TI TO i1 i2 l1 l2) (hz0 : IsZip s.heap z TI TO .none) (hTI : IsPair s.heap TI (.ref i1) (.ref i2)) (hTO : ∃ a b, IsPair s.heap TO a b) (h1 : s.heap.IsListIter i1 l1 0) (h2 : s.heap.IsListIter i2 l2 0) (hl1 : s.heap.IsList l1 xs) (hl2 : s.heap.IsList l2 ys) (hn : min xs.size ys.size ≤ sizeLine)
    (hQ : ∀ h' tk acc c as, (∀ b o, b ≠ z → b ≠ TO → b ≠ i1 → b ≠ i2 → s.heap.get? b = some o → h'.get? b = some o) → h'.get? s.heap.objs.size = some { cls := .type "list", dict := none, data := .seq acc c, slots := #[] } → as.length = min xs.size ys.size → ZlG xs ys s.heap.objs.size h' as →
      acc.toList = as.map Value.ref → Q (.ref s.heap.objs.size) { s with heap := h', toks := tk }) :
    wpAny (model prog w) A (call (.type "list") [.ref z]) Q E s := by
  refine callType_codes (Q₁ := fun obj s₁ => obj = .ref s.heap.objs.size ∧ s₁ = { s with heap := s.heap.push { cls := .type "list", data := .seq #[] } }) PySem.F.called_list (PySem.F.typeCall_list_1 _) PySem.F.entry_list_init
    (code_list_new _ ⟨rfl, rfl⟩) fun obj s₁ h₁ => ?_
  obtain ⟨rfl, rfl⟩ := h₁
  have hSh : (s.heap.push { cls := .type "list", data := .seq #[] }).get? s.heap.objs.size = some { cls := .type "list", data := .seq #[] } := Heap.get?_push_size _ rfl
  obtain ⟨a, b, hTO⟩ := hTO
  have g1 : i1 < s.heap.objs.size := let ⟨_, e, _⟩ := h1; Heap.lt_size e
  have g2 : i2 < s.heap.objs.size := let ⟨_, e, _⟩ := h2; Heap.lt_size e
  have g3 : l1 < s.heap.objs.size := let ⟨_, e, _⟩ := hl1; Heap.lt_size e
  have g4 : l2 < s.heap.objs.size := let ⟨_, e, _⟩ := hl2; Heap.lt_size e
  have low : ∀ c ∈ [z, TI, TO, i1, i2, l1, l2], c < s.heap.objs.size := fun c hc => by
    simp only [List.mem_cons, List.not_mem_nil, or_false] at hc
    rcases hc with rfl | rfl | rfl | rfl | rfl | rfl | rfl
    · exact Heap.lt_size hz0
    · exact Heap.lt_size hTI
    · exact Heap.lt_size hTO
    · exact g1
    · exact g2
    · exact g3
    · exact g4
  have pu : ∀ b o, s.heap.get? b = some o → (s.heap.push { cls := .type "list", data := .seq #[] }).get? b = some o := fun b o e => Heap.get?_push_of_some _ e
  refine ⟨⟨_, hSh, rfl⟩, PySem.F.args_list_init_2 _ _, zl_init (A := A.in1) (z := z) (TI := TI) (TO := TO) (i1 := i1) (i2 := i2) (l1 := l1) (l2 := l2) (xs := xs) (ys := ys) hh D (fun c hc => Nat.ne_of_gt (low c hc)) (fun c hc => low c (by simp only [List.mem_cons, List.not_mem_nil, or_false] at hc ⊢; rcases hc with h | h | h | h <;> simp [h]))
    ⟨pu _ _ hTI, h1.at fun o e => pu _ _ e, h2.at fun o e => pu _ _ e, hl1.at fun o e => pu _ _ e, hl2.at fun o e => pu _ _ e, .inl ⟨pu _ _ hz0, a, b, pu _ _ hTO⟩⟩ (pu _ _ hz0) hSh (fun h' tk acc c as hk hS' hl hG hacc => ?_) hn⟩
  exact ⟨rfl, hQ h' tk acc c as (fun b o b1 b2 b3 b4 e => hk b o (Nat.ne_of_lt (Heap.lt_size e)) b1 b2 b3 b4 (Heap.get?_push_of_some _ e)) hS' hl hG hacc⟩
end
/-! ### list(zip(a, b)) at the hand's level -/
section
open PySem.Spec PyProof.Rows L2
def putP : Hp → List Addr → List (V × V) → Hp
  | H, a :: as, p :: ps => putP (upd H a (.tup [p.1, p.2])) as ps
  | H, _, _ => H
theorem putP_off {b : Addr} : ∀ (as : List Addr) (ps : List (V × V)) (H : Hp), b ∉ as → putP H as ps b = H b
  | [], _, _, _ => rfl
  | _ :: _, [], _, _ => rfl
  | a :: as, p :: ps, H, h => by
    show putP (upd H a (.tup [p.1, p.2])) as ps b = H b
    rw [putP_off as ps _ (fun z => h (List.mem_cons_of_mem _ z)), upd_ne (fun z => h (by rw [z]; exact List.mem_cons_self))]
theorem putP_at : ∀ (as : List Addr) (ps : List (V × V)) (H : Hp), as.length = ps.length → as.Nodup → Paired (fun (t : Addr) (p : V × V) => putP H as ps t = some (.tup [p.1, p.2])) as ps
  | [], [], _, _, _ => .nil
  | [], _ :: _, _, h, _ => by cases h
  | _ :: _, [], _, h, _ => by cases h
  | a :: as, p :: ps, H, h, hn => by
    have hn' := List.nodup_cons.mp hn
    have ih := putP_at as ps (upd H a (.tup [p.1, p.2])) (Nat.succ.inj h) hn'.2
    refine .cons ?_ ih
    show putP (upd H a (.tup [p.1, p.2])) as ps a = some (.tup [p.1, p.2])
    rw [putP_off as ps _ hn'.1, upd_same]
variable {X : Cx}
theorem pairs_laid {pins : List (Addr × Obj)} {σ : L2.St} {H : Hp} {s : Shared} {h' : Heap} {tk c : Nat} {us vs : List V} {its its2 : List Value} {acc : Array Value} {as : List Addr} {S : Addr} (I : Inv X pins σ H s) (hge : s.heap.objs.size ≤ S) (r1 : Vals us its) (r2 : Vals vs its2) (hz : as.length ≤ sizeLine)
    (hk : ∀ b o, s.heap.get? b = some o → h'.get? b = some o) (hS : h'.get? S = some { cls := .type "list", dict := none, data := .seq acc c, slots := #[] }) (hl : as.length = (us.zip vs).length) (hG : ZlG its.toArray its2.toArray S h' as) (hacc : acc.toList = as.map Value.ref) :
    ∃ H' : Hp, Ex H H' ∧ H S = none ∧ (∀ t ∈ as, H t = none) ∧ H' S = some (.lst (as.map V.ref)) ∧ Paired (fun (t : Addr) (q : V × V) => H' t = some (.tup [q.1, q.2])) as (us.zip vs) ∧ Inv X pins σ H' { s with heap := h', toks := tk } := by
  have hSn : S ∉ as := fun z => Nat.lt_irrefl _ (hG.above _ z)
  have nd : as.Nodup := List.Pairwise.imp (fun {a b} (h : a < b) => Nat.ne_of_lt h) hG.rise
  have new : ∀ t ∈ as, H t = none := fun t ht => I.hok.fresh (Nat.le_trans hge (Nat.le_of_lt (hG.above t ht)))
  have newS : H S = none := I.hok.fresh hge
  have atP := putP_at as (us.zip vs) (upd H S (.lst (as.map V.ref))) hl nd
  have off : ∀ b, b ∉ as → b ≠ S → putP (upd H S (.lst (as.map V.ref))) as (us.zip vs) b = H b := fun b h1 h2 => by rw [putP_off as _ _ h1, upd_ne h2]
  have low : ∀ b o, s.heap.get? b = some o → b ∉ as ∧ b ≠ S := fun b o e => ⟨fun z => absurd (Heap.lt_size e) (Nat.not_lt.mpr (Nat.le_trans hge (Nat.le_of_lt (hG.above b z)))), fun z => absurd (Heap.lt_size e) (Nat.not_lt.mpr (z ▸ hge))⟩
  have kp : ∀ b u, H b = some u → (putP (upd H S (.lst (as.map V.ref))) as (us.zip vs)) b = some u := fun b u e => by
    rw [off b (fun z => by rw [new b z] at e; cases e) (fun z => by rw [z, newS] at e; cases e)]
    exact e
  have eS : putP (upd H S (.lst (as.map V.ref))) as (us.zip vs) S = some (.lst (as.map V.ref)) := by rw [putP_off as _ _ hSn, upd_same]
  refine ⟨putP (upd H S (.lst (as.map V.ref))) as (us.zip vs), kp, newS, new, eS, atP, ?_⟩
  refine I.call' (ch := []) rfl ⟨fun b o q _ _ _ => hk b o q, fun b o q _ _ _ => ⟨o.slots, hk b o q⟩, fun b o q n _ => ?_, fun b o q _ => ⟨o, hk b o q⟩, fun b xs q => kp b _ q, fun b o u q => kp b _ q, fun b ps q => ⟨#[], by rw [kp b _ q]; simp⟩⟩ (fun b u q => ?_) I.bare fun b z => by simp at z
  · obtain ⟨z1, z2⟩ := low b o q
    rw [off b z1 z2]
    exact n
  · by_cases hb : b ∈ as
    · obtain ⟨j, pk, e1, e2, e3⟩ := LiI.paired_ix atP hb
      rw [e3] at q
      cases q
      obtain ⟨x, y, f1, f2, f3⟩ := hG.pairs j b e1
      obtain ⟨g1, g2⟩ := List.getElem?_zip_eq_some.mp e2
      obtain ⟨v1, k1, m1⟩ := r1.get g1
      obtain ⟨v2, k2, m2⟩ := r2.get g2
      have j1 : v1 = x := by
        have q1 : its[j]? = some x := by simpa using f1
        rw [k1] at q1; exact Option.some.inj q1
      have j2 : v2 = y := by
        have q1 : its2[j]? = some y := by simpa using f2
        rw [k2] at q1; exact Option.some.inj q1
      rw [j1] at m1
      rw [j2] at m2
      exact ⟨by show 2 ≤ sizeLine; decide, [x, y], .cons m1 (.cons m2 .nil), ⟨_, f3, rfl, _, rfl⟩⟩
    · by_cases hb2 : b = S
      · rw [hb2] at q ⊢
        rw [eS] at q
        cases q
        refine ⟨by rw [List.length_map]; omega, acc.toList, c, by rw [hacc]; exact LiI.vals_refs as, ?_⟩
        rw [Array.toArray_toList]
        exact hS
      · rw [off b hb hb2] at q
        exact (I.hok b u q).stay (fun d v _ y => hk d v y) (fun d y => kp d _ y) fun d xs y => kp d _ y
def tListZip (K : PySem.W.Frag) (ta : TA) : TE := fun σ H Q => ta σ H fun zs H1 => ∃ a b us vs, zs = [.ref a, .ref b] ∧ SqL K H1 a us ∧ SqL K H1 b vs ∧
  ∀ (H' : Hp) (p : Addr) (ts : List Addr), Ex H1 H' → H1 p = none → (∀ t ∈ ts, H1 t = none) → H' p = some (.lst (ts.map V.ref)) → Paired (fun (t : Addr) (q : V × V) => H' t = some (.tup [q.1, q.2])) ts (us.zip vs) → Q (.ref p) H'
theorem pe_listZip {e e2 : Expr} {ta : TA} {p p2 pos pos2 : Pos} (hc : X.calm = true) (hg : Gl X "list") (hm : X.mg "list" = none) (hg2 : Gl X "zip") (hm2 : X.mg "zip" = none) (ha : PA X [e, e2] ta)
    (hs : starEach [e, e2] X.env = (false, eval e X.env) :: starEach [e2] X.env := by rfl) (hpl : (backTo pos2 (starEach [e2] X.env)).any (·.1) = false := by rfl)
    (hs2 : starEach [.Call (.Name "zip" p2) [e, e2] [] pos2] X.env = (false, eval (.Call (.Name "zip" p2) [e, e2] [] pos2) X.env) :: starEach [] X.env := by rfl) :
    PE X (.Call (.Name "list" p) [.Call (.Name "zip" p2) [e, e2] [] pos2] [] pos) (tListZip X.K ta) := by
  refine ⟨fun pins s σ H Q I hq => ?_⟩
  refine Call_ (ld_blt I hg hm PyProof.Rows.boot_list ?_)
  refine PyProof.Rows.callWith_type1 ?_ hs2 rfl
  rw [hs2]
  show wpAny _ _ (spliced ((false, eval (.Call (.Name "zip" p2) [e, e2] [] pos2) X.env) :: backTo pos (starEach [] X.env))) _ _ s
  refine Calls.spliced_cons ?_
  refine Call_ (ld_blt I hg2 hm2 PyProof.Rows.boot_zip (PyProof.Rows.callWith_type1 (thn (ha.run pos2 pins s σ H _ I hq) fun us0 s1 ⟨zs, H1, I1, r1, q1⟩ => ?_) hs hpl))
  obtain ⟨a, b, us, vs, ex, hqx, hqy, q⟩ := q1
  subst ex
  cases r1 with
  | cons r rr =>
    cases rr with
    | cons r' rr =>
      cases rr
      cases r
      cases r'
      obtain ⟨its, rv, p1, hz1⟩ := I1.list hqx
      obtain ⟨its2, rv2, q2, hz2⟩ := I1.list hqy
      have pl1 := p1.isList
      have pl2 := q2.isList
      have lt1 : a < s1.heap.objs.size := let ⟨_, e, _⟩ := pl1; Heap.lt_size e
      have lt2 : b < s1.heap.objs.size := let ⟨_, e, _⟩ := pl2; Heap.lt_size e
      have len1 := rv.length
      have len2 := rv2.length
      refine call_zip_2 pl1 pl2 fun h1 hz hTI hTO g1 g2 hsz hk => ?_
      refine Calls.spliced_nil ?_
      refine zl_call (s := { s1 with heap := h1 }) (xs := its.toArray) (ys := its2.toArray) (I1.ok.hd hc) (PySem.W.ktu_apart s1.heap.objs.size a b lt1 lt2) hz hTI ⟨_, _, hTO⟩ g1 g2 (pl1.at fun o e => hk _ o e) (pl2.at fun o e => hk _ o e) (by simp; omega) fun h' tk acc c as hk' hS hl hG hacc => ?_
      have hS' : h'.get? h1.objs.size = _ := hS
      have hge : s1.heap.objs.size ≤ h1.objs.size := by rw [hsz]; exact Nat.le_add_right _ _
      have hkk : ∀ b o, s1.heap.get? b = some o → h'.get? b = some o := fun b o e => by
        have lt := Heap.lt_size e
        exact hk' b o (Nat.ne_of_lt (Nat.lt_of_lt_of_le lt (Nat.le_add_right _ _))) (Nat.ne_of_lt (Nat.lt_of_lt_of_le lt (Nat.le_add_right _ _))) (Nat.ne_of_lt lt) (Nat.ne_of_lt (Nat.lt_of_lt_of_le lt (Nat.le_add_right _ _))) (hk b o e)
      have el : as.length = (us.zip vs).length := by rw [hl, List.length_zip]; simp; omega
      obtain ⟨H', k1, k2, k3, k5, k6, J⟩ := pairs_laid (tk := tk) I1 hge rv rv2 (by rw [hl]; simp; omega) hkk hS' el hG hacc
      exact ⟨.ref _, H', J, rfl, q H' _ as k1 k2 k3 k5 k6⟩
end
/-! ### over data -/
section
open PySem.Spec PyProof.Rows L2
variable {X : Cx} {W : WX} {K : PySem.W.Frag} {F G0 H H' : Hp} {cs : Cs}
theorem Sta.ext (s : Sta K F G0 cs H) (e : Ex H H') : Sta K F G0 cs H' ∧ Ex (pur F cs H) (pur F cs H') := by
  have g : Ex (pur F cs H) (pur F cs H') := fun b u q => by
    obtain ⟨e1, e2, e3⟩ := pur_of q
    rw [pur_at e2 e3]
    exact e b u e1
  refine ⟨⟨s.fr.trans e, s.gr.trans g, s.nd, s.ap, fun a m hm => ?_, s.ft⟩, g⟩
  obtain ⟨o, ho, r⟩ := s.ow a m hm
  exact ⟨o, e _ _ ho, r.mono g⟩
theorem rep_pairs {G : Hp} : ∀ {ts : List Addr} {us vs : List V} {ds es : List D}, Paired (fun (t : Addr) (q : V × V) => G t = some (.tup [q.1, q.2])) ts (us.zip vs) → RepL K G us ds → RepL K G vs es → RepL K G (ts.map V.ref) (List.zipWith (fun d e => D.tup [d, e]) ds es)
  | _, _, _, _, _, h, .nil, _ => by
    cases h
    exact .nil
  | _, _, _, _, _, h, .cons _ _, .nil => by
    cases h
    exact .nil
  | _, _, _, _, _, h, .cons a b, .cons c d => by
    cases h with
    | cons h t => exact .cons (.tup (SqT.of h) (.cons a (.cons c .nil))) (rep_pairs t b d)
theorem paired_imp {α β : Type} {F F' : α → β → Prop} {as : List α} (i : ∀ a ∈ as, ∀ b, F a b → F' a b) : ∀ {as' : List α} {bs : List β}, (∀ a ∈ as', a ∈ as) → Paired F as' bs → Paired F' as' bs
  | _, _, _, .nil => .nil
  | _, _, m, .cons h t => .cons (i _ (m _ List.mem_cons_self) _ h) (paired_imp i (fun a ha => m a (List.mem_cons_of_mem _ ha)) t)
/-- list(zip(xs, ys)) -/
def wLstZ (w : WA) : DL.WE := fun ρ cs P Z => w ρ cs (fun ds cs1 => ∃ xs ys, ds = [.lst xs, .lst ys] ∧ P (.lst (List.zipWith (fun d e => D.tup [d, e]) xs ys)) cs1) Z
theorem d_listZ {w : WA} {e e2 : Expr} {p p2 pos pos2 : Pos} (hc : X.calm = true) (hg : Gl X "list") (hm : X.mg "list" = none) (hg2 : Gl X "zip") (hm2 : X.mg "zip" = none) (ha : DA X W [e, e2] w)
    (hs : starEach [e, e2] X.env = (false, eval e X.env) :: starEach [e2] X.env := by rfl) (hpl : (backTo pos2 (starEach [e2] X.env)).any (·.1) = false := by rfl)
    (hs2 : starEach [.Call (.Name "zip" p2) [e, e2] [] pos2] X.env = (false, eval (.Call (.Name "zip" p2) [e, e2] [] pos2) X.env) :: starEach [] X.env := by rfl) :
    DE X W (.Call (.Name "list" p) [.Call (.Name "zip" p2) [e, e2] [] pos2] [] pos) (wLstZ w) :=
  PE.imp (pe_listZip hc hg hm hg2 hm2 ha hs hpl hs2) fun σ H Q hq => by
    obtain ⟨F, cs, ρ, P, Z, s, re, hw, pe, px⟩ := hq
    refine ⟨F, cs, ρ, _, Z, s, re, hw, fun H1 cs1 zs ds s1 r1 l1 h1 => ?_, px⟩
    obtain ⟨xs, ys, rfl, h⟩ := h1
    cases r1 with
    | cons r1 r2 =>
      cases r2 with
      | cons r2 r3 =>
        cases r3
        cases r1 with
        | lst a1 b1 =>
        cases r2 with
        | lst a2 b2 =>
        refine ⟨_, _, _, _, rfl, ex_l pur_le a1, ex_l pur_le a2, fun H' q ts k1 k2 k3 k5 k6 => ?_⟩
        obtain ⟨s2, g⟩ := s1.ext k1
        obtain ⟨n1, n2⟩ := s1.notin k2
        have eq1 : pur F cs1 H' q = some (.lst (ts.map V.ref)) := by rw [pur_at n1 n2]; exact k5
        have k6' : Paired (fun (t : Addr) (z : V × V) => pur F cs1 H' t = some (.tup [z.1, z.2])) ts _ := paired_imp (as := ts) (fun t ht z hz => by
          obtain ⟨m1, m2⟩ := s1.notin (k3 t ht)
          rw [pur_at m1 m2]; exact hz) (fun _ h => h) k6
        exact pe _ _ _ _ s2 (.lst (SqL.of eq1) (rep_pairs k6' (b1.mono g) (b2.mono g))) h
theorem r_lstZ {w : WA} {ρ : DL.Env} {P : DP} {Z : XZ} (h : w ρ cs (fun ds cs1 => ∃ xs ys, ds = [.lst xs, .lst ys] ∧ P (.lst (List.zipWith (fun d e => D.tup [d, e]) xs ys)) cs1) Z) : wLstZ w ρ cs P Z := h
/-- dict(pairs) -/
def oDictP : DOn := fun ds cs P => ∃ kvs : List (Key × D), ds = [.lst (kvs.map fun kv => .tup [kD kv.1, kv.2])] ∧ ∀ p, p ∉ adr cs → P (.opq (.ref p)) ((p, .dic (mergeD [] kvs)) :: cs)
theorem rep_kD {G : Hp} {v : V} {k : Key} (r : Rep K G v (kD k)) : v = kV k := by
  cases k <;> cases r <;> rfl
theorem rep_dictP {G : Hp} : ∀ {vs : List V} {kvs : List (Key × D)}, RepL K G vs (kvs.map fun kv => .tup [kD kv.1, kv.2]) → ∃ (ps : List Addr) (xs : List (Key × V)), vs = ps.map V.ref ∧ Paired (fun p kv => SqT K G p [kV kv.1, kv.2]) ps xs ∧ RG K G xs kvs
  | _, [], .nil => ⟨[], [], rfl, .nil, .nil⟩
  | _, (k, d) :: kvs, .cons r t => by
    obtain ⟨ps, xs, rfl, h1, h2⟩ := rep_dictP t
    cases r with
    | tup a b =>
      cases b with
      | cons b1 b2 =>
        cases b2 with
        | cons b2 b3 =>
          cases b3
          rw [rep_kD b1] at a
          exact ⟨_ :: ps, (k, _) :: xs, rfl, .cons a h1, .cons b2 h2⟩
theorem adq_dictP : AdqN K (fun xs H Q => ∃ (a : Addr) (ps : List Addr) (kvs : List (Key × V)), xs = [.ref a] ∧ SqL K H a (ps.map V.ref) ∧ Paired (fun p kv => SqT K H p [kV kv.1, kv.2]) ps kvs ∧ ∀ p, H p = none → Q (.ref p) (upd H p (.dK (mergeK [] kvs)))) oDictP := fun F cs H xs ds P Q s r ho pe => by
  obtain ⟨kvs, rfl, h⟩ := ho
  cases r with
  | cons r1 r2 =>
    cases r2
    cases r1 with
    | lst a b =>
      obtain ⟨ps, us, rfl, h1, h2⟩ := rep_dictP b
      refine ⟨_, ps, us, rfl, ex_l pur_le a, paired_imp (as := ps) (fun t _ z hz => ex_t pur_le hz) (fun _ h => h) h1, fun p hp => ?_⟩
      have s2 := s.newM (m := .dic (mergeD [] kvs)) (o := .dK (mergeK [] us)) hp (RG.merge h2 .nil).rk
      exact pe _ _ _ _ s2 (.opq _) (h p (s.notin hp).2)
/-! ### names with things -/
def dicZ (ns : List Str) (bs : List D) : List (Key × D) := (ns.zip bs).map fun p => (Sum.inr p.1, p.2)
theorem zip_dicZ : ∀ (ns : List Str) (bs : List D), List.zipWith (fun d e => D.tup [d, e]) (ns.map D.str) bs = (dicZ ns bs).map fun kv => D.tup [kD kv.1, kv.2]
  | [], _ => by simp [dicZ]
  | _ :: _, [] => by simp [dicZ]
  | n :: ns, b :: bs => by
    have ih := zip_dicZ ns bs
    simp only [List.map_cons, List.zipWith_cons_cons, dicZ, List.zip_cons_cons, ih]
    rfl
theorem dicZ_keys : ∀ {ns : List Str} {bs : List D}, ns.length = bs.length → (dicZ ns bs).map (·.1) = ns.map Sum.inr
  | [], [], _ => rfl
  | n :: ns, b :: bs, h => by
    have ih := dicZ_keys (ns := ns) (bs := bs) (Nat.succ.inj h)
    show Sum.inr n :: (dicZ ns bs).map (·.1) = Sum.inr n :: ns.map Sum.inr
    rw [ih]
theorem mergeD_app : ∀ (more kvs : List (Key × D)), ((kvs ++ more).map (·.1)).Nodup → mergeD kvs more = kvs ++ more
  | [], kvs, _ => by simp [mergeD]
  | (k, v) :: r, kvs, h => by
    have hno : ∀ q ∈ kvs, q.1 ≠ k := fun q hq e => by
      rw [List.map_append, List.nodup_append] at h
      exact h.2.2 q.1 (List.mem_map.mpr ⟨q, hq, rfl⟩) k (by simp) e
    show mergeD (putD kvs k v) r = _
    rw [putD_new v (look_none_of hno)]
    have e := mergeD_app r (kvs ++ [(k, v)]) (by simpa using h)
    rw [e]; simp
theorem r_dictN {ns : List Str} {bs : List D} {P : DP} (nd : ns.Nodup) (hl : ns.length = bs.length) (h : ∀ p, p ∉ adr cs → P (.opq (.ref p)) ((p, .dic (dicZ ns bs)) :: cs)) : oDictP [.lst (List.zipWith (fun d e => D.tup [d, e]) (ns.map D.str) bs)] cs P := by
  refine ⟨dicZ ns bs, by rw [zip_dicZ], fun p hp => ?_⟩
  rw [mergeD_app (dicZ ns bs) [] (by
    rw [List.nil_append, dicZ_keys hl]
    exact List.Pairwise.map _ (fun a b hn e => hn (Sum.inr.inj e)) nd), List.nil_append]
  exact h p hp
theorem r_dictZ {ns : List Str} {bs : List D} {P : DP} (nd : ns.Nodup) (hl : ns.length = bs.length) (h : P (.dic (dicZ ns bs)) cs) : oDictP [.lst (List.zipWith (fun d e => D.tup [d, e]) (ns.map D.str) bs)] cs (fun d cs1 => ∃ p, d = .opq (.ref p) ∧ ((∃ kvs, look p cs1 = some (.dic kvs) ∧ P (.dic kvs) (del p cs1)) ∨ ∃ kvs, look p cs1 = some (.dct kvs) ∧ P (.dct kvs) (del p cs1))) := by
  refine ⟨dicZ ns bs, by rw [zip_dicZ], fun p hp => ?_⟩
  rw [mergeD_app (dicZ ns bs) [] (by
    rw [List.nil_append, dicZ_keys hl]
    exact List.Pairwise.map _ (fun a b hn e => hn (Sum.inr.inj e)) nd), List.nil_append]
  exact r_lockK h
end
end DL

/-! DLEd: the edges that boxes share. -/
namespace DL
open PySem
/-- what the ways from a to b and from c to d have in common -/
def ovR (a b c d : Rat) : Rat := if (if a < c then c else a) < (if b < d then b else d) then (if b < d then b else d) - (if a < c then c else a) else 0
def edgeR (b c : Bx) : Rat := if c.l + c.w = b.l ∨ b.l + b.w = c.l then ovR b.t (b.t + b.h) c.t (c.t + c.h) else if c.t + c.h = b.t ∨ b.t + b.h = c.t then ovR b.l (b.l + b.w) c.l (c.l + c.w) else 0
theorem ovR_symm (a b c d : Rat) : ovR a b c d = ovR c d a b := by
  unfold ovR
  have e1 : (if a < c then c else a) = (if c < a then a else c) := by grind
  have e2 : (if b < d then b else d) = (if d < b then d else b) := by grind
  rw [e1, e2]
theorem edgeR_symm (b c : Bx) : edgeR b c = edgeR c b := by
  unfold edgeR
  rw [ovR_symm b.t, ovR_symm b.l]
  have e1 : (c.l + c.w = b.l ∨ b.l + b.w = c.l) ↔ (b.l + b.w = c.l ∨ c.l + c.w = b.l) := Or.comm
  have e2 : (c.t + c.h = b.t ∨ b.t + b.h = c.t) ↔ (b.t + b.h = c.t ∨ c.t + c.h = b.t) := Or.comm
  simp only [e1, e2]
theorem ovR_zero {a b c d : Rat} (h1 : a < b) (h2 : c < d) (h : b = c ∨ d = a) : ovR a b c d = 0 := by
  unfold ovR
  rw [if_neg]
  grind
/-- the law's: both sums -/
def edgeL (b c : Bx) : Rat := (if b.l + b.w = c.l ∨ c.l + c.w = b.l then ovR b.t (b.t + b.h) c.t (c.t + c.h) else 0) + (if b.t + b.h = c.t ∨ c.t + c.h = b.t then ovR b.l (b.l + b.w) c.l (c.l + c.w) else 0)
theorem edge_eq {b c : Bx} (pb : b.Pos) (pc : c.Pos) : edgeL b c = edgeR b c := by
  unfold edgeL edgeR
  have w1 := pb.w
  have w2 := pc.w
  by_cases h1 : b.l + b.w = c.l ∨ c.l + c.w = b.l
  · rw [if_pos h1, if_pos (Or.comm.mp h1)]
    have z : ovR b.l (b.l + b.w) c.l (c.l + c.w) = 0 := ovR_zero (by grind) (by grind) h1
    rw [z]
    split <;> rw [Rat.add_zero]
  · rw [if_neg h1, if_neg (fun z => h1 (Or.comm.mp z)), Rat.zero_add]
    by_cases h2 : b.t + b.h = c.t ∨ c.t + c.h = b.t
    · rw [if_pos h2, if_pos (Or.comm.mp h2)]
    · rw [if_neg h2, if_neg (fun z => h2 (Or.comm.mp z))]
end DL

namespace Lw
open PySem PySem.Spec PyProof.Rows L2 DL

local macro_rules | `(tactic| walk_at "st") => `(tactic| (first
  | with_reducible refine r_kT ?_ | with_reducible refine r_kF ?_ | with_reducible refine r_nT ?_ | with_reducible refine r_nF ?_ | with_reducible refine r_nx ?_ | with_reducible refine r_rt ?_ | with_reducible refine r_bk ?_ | with_reducible refine r_cn ?_ | with_reducible refine r_gN ?_ | with_reducible refine r_gCn ?_ | with_reducible refine r_gNl ?_ | ((with_reducible apply r_gT); (exact rfl)) | with_reducible refine r_sif ?_ | with_reducible refine r_set ?_ | with_reducible refine r_asg ?_ | with_reducible refine r_ret ?_ | with_reducible refine r_op ?_ | with_reducible refine r_test ?_
  | ((with_reducible apply r_var); (exact rfl)) | with_reducible refine r_c ?_ | with_reducible refine r_cons ?_ | with_reducible refine r_nil ?_ | with_reducible refine r_call ?_ | with_reducible refine r_cb ?_
  | with_reducible refine r_tup ?_ | with_reducible refine r_lst ?_ | with_reducible refine r_par ?_ | with_reducible refine r_setix ?_ | with_reducible refine r_and ?_ | with_reducible refine r_or ?_ | with_reducible refine r_not ?_
  | with_reducible refine r_if ?_ | with_reducible refine r_andV ?_ | with_reducible refine r_orV ?_ | with_reducible refine r_notV ?_ | with_reducible refine r_drop ?_ | with_reducible refine r_next ?_ | with_reducible refine r_un ?_ | with_reducible refine r_for ?_
  | with_reducible refine r_mtL ?_ | with_reducible refine r_mtL0 ?_ | with_reducible refine r_seqI ?_ | with_reducible refine r_tupI ?_ | with_reducible refine r_rg1 ?_ | with_reducible refine r_retN ?_ | with_reducible refine r_brk ?_ | with_reducible refine r_ct ?_
  | with_reducible refine r_ixR0 ?_ | with_reducible refine r_ixR1 ?_ | with_reducible refine r_add ?_ | with_reducible refine r_sub ?_ | with_reducible refine r_lt ?_ | with_reducible refine r_le ?_ | with_reducible refine r_gt ?_ | with_reducible refine r_ge ?_ | with_reducible refine r_neg ?_
  | with_reducible refine r_eqI ?_ | with_reducible refine r_neI ?_ | with_reducible refine r_eqR ?_ | with_reducible refine r_neR ?_ | with_reducible refine r_eqBs ?_ | with_reducible refine r_neBs ?_ | with_reducible refine r_isN ?_ | with_reducible refine r_notN ?_ | with_reducible refine r_isBs ?_ | with_reducible refine r_notBs ?_ | with_reducible refine r_isB ?_ | with_reducible refine r_notB ?_ | with_reducible refine r_eqB ?_ | with_reducible refine r_neB ?_ | with_reducible refine r_eqS ?_ | with_reducible refine r_neS ?_
  | ((with_reducible apply r_ixT); (exact rfl)) | ((with_reducible apply r_ixL); (exact rfl))
  | ((with_reducible apply r_ixM); (first | assumption | exact look_put (by assumption) | exact look_put (look_put (by assumption)) | exact look_put (look_put (look_put (by assumption))) | exact look_put (look_put (look_put (look_put (by assumption))))); (exact rfl))
  | ((with_reducible apply r_setL); (first | assumption | exact look_put (by assumption) | exact look_put (look_put (by assumption)) | exact look_put (look_put (look_put (by assumption))) | exact look_put (look_put (look_put (look_put (by assumption))))); (exact rfl))
  | ((with_reducible apply r_mul); (first | exact mulOk_r (by decide) | exact mulOk_l (by decide) | assumption | exact mulOk_r (by omega) | exact mulOk_l (by omega)))
  | ((with_reducible apply r_mod); (first | assumption | decide)) | ((with_reducible apply r_div); (first | assumption | exact ⟨by decide, by decide⟩)) | ((with_reducible apply r_pow); (exact ⟨by decide, by decide, by decide⟩))
  | ((with_reducible apply r_count); (exact rfl); (exact rfl)) | with_reducible refine r_abs ?_ | ((with_reducible apply r_isiT); (exact rfl)) | ((with_reducible apply r_isiF); (exact rfl)) | ((with_reducible apply r_isiTT); (exact rfl); (exact rfl); (exact rfl)) | ((with_reducible apply r_isiTF); (exact rfl); (exact rfl); (exact rfl)) | with_reducible refine r_tupleL ?_ | with_reducible refine r_tupleT ?_ | with_reducible refine r_sl ?_ | with_reducible refine r_revL ?_ | with_reducible refine r_revLL ?_ | with_reducible refine r_noPart ?_ | with_reducible refine DL.r_part ?_ | with_reducible refine r_slL ?_ | with_reducible refine r_slT ?_ | with_reducible refine r_yes ?_ | with_reducible refine r_comp ?_ | with_reducible refine r_zipL ?_ | with_reducible refine r_lenL ?_ | with_reducible refine r_lenT ?_ | with_reducible refine r_listL ?_ | with_reducible refine r_listT ?_ | with_reducible refine r_isL ?_
  | with_reducible refine r_ixB0 ?_ | with_reducible refine r_ixB1 ?_ | with_reducible refine r_ixB2 ?_ | with_reducible refine r_ixB3 ?_ | with_reducible refine r_eqDn ?_ | with_reducible refine r_eqAc ?_ | with_reducible refine r_frz ?_ | with_reducible refine r_frzH ?_ | (with_reducible refine ⟨_, _, rfl, look_hd, ?_⟩; rw [del_hd]) | with_reducible refine r_isMH ?_ | with_reducible refine r_lstM ?_ | with_reducible refine r_chain ?_ | with_reducible refine r_par3 ?_ | with_reducible refine r_callK ?_ | with_reducible refine r_anyI ?_ | with_reducible refine r_callD ?_
  | ((with_reducible apply r_aug); (exact rfl))))
local macro_rules | `(tactic| walk_at "g1") => `(tactic| repeat (walk_at "st"))
local macro_rules | `(tactic| walk_at "go") => `(tactic| repeat (first | with_reducible refine r_seq ?_ | walk_at "st"))
local macro_rules | `(tactic| walk_at "s2") => `(tactic| (first
  | with_reducible refine r_compM_ ?_ | with_reducible refine r_comp2 ?_ | with_reducible refine r_zip ?_ | with_reducible refine r_zipM ?_ | with_reducible refine r_lenH ?_ | with_reducible refine r_lenXL ?_ | with_reducible refine r_tupH ?_ | with_reducible refine r_tupXL ?_ | with_reducible refine r_tupXT ?_ | with_reducible refine r_listXH ?_ | with_reducible refine r_listXL ?_ | with_reducible refine r_listXT ?_ | with_reducible refine r_listML ?_ | with_reducible refine r_listMT ?_ | with_reducible refine r_min2 ?_ | with_reducible refine r_max2 ?_ | with_reducible refine r_sumL ?_ | with_reducible refine r_sumT ?_ | with_reducible refine r_clearH ?_ | with_reducible refine r_gStar ?_ | with_reducible refine r_gone ?_ | with_reducible refine r_goneH ?_ | with_reducible refine r_ix0 ?_ | with_reducible refine r_ix0T ?_ | with_reducible refine r_slAL ?_ | with_reducible refine r_slAT ?_ | with_reducible refine r_flatB ?_ | with_reducible refine r_dn1 ?_ | with_reducible refine r_ac1 ?_ | with_reducible refine r_dn2 ?_ | with_reducible refine r_ac2 ?_ | with_reducible refine r_dn3 ?_ | with_reducible refine r_ac3 ?_ | with_reducible refine r_dn4 ?_ | with_reducible refine r_ac4 ?_ | with_reducible refine r_dn5 ?_ | with_reducible refine r_ac5 ?_ | with_reducible refine r_app11 ?_ | with_reducible refine r_app12 ?_ | with_reducible refine r_app21 ?_ | with_reducible refine r_app22 ?_ | with_reducible refine r_app31 ?_ | with_reducible refine r_app32 ?_ | with_reducible refine r_app41 ?_ | with_reducible refine r_app42 ?_ | with_reducible refine r_app51 ?_ | with_reducible refine r_app52 ?_
  | ((with_reducible apply r_lenW); (assumption)) | ((with_reducible apply r_sumW); (assumption)) | ((with_reducible apply r_catLL); (walk_at "in")) | ((with_reducible apply r_catML); (walk_at "in")) | ((with_reducible apply r_catT); (walk_at "in")) | ((with_reducible apply r_catB); (walk_at "in")) | ((with_reducible apply r_appendH); (walk_at "in"))))
local macro_rules | `(tactic| walk_at "s0") => `(tactic| (first
  | with_reducible refine q_sif ?_ | with_reducible refine q_set ?_ | with_reducible refine q_asg ?_ | with_reducible refine q_ret ?_ | with_reducible refine q_drop ?_ | with_reducible refine q_next ?_ | with_reducible refine q_par ?_ | with_reducible refine q_for ?_ | with_reducible refine q_par3 ?_ | with_reducible refine q_setix ?_ | with_reducible refine q_brk ?_ | with_reducible refine q_ct ?_ | with_reducible refine q_retN ?_ | ((with_reducible apply q_aug); (exact rfl))))
local macro_rules | `(tactic| walk_at "cl") => `(tactic| fail)
local macro_rules | `(tactic| walk_at "n0") => `(tactic| (first | ((with_reducible refine g_e ?_); (first | with_reducible refine r_op ?_ | ((with_reducible apply r_var); (exact rfl)) | with_reducible refine r_c ?_ | with_reducible refine r_call ?_ | with_reducible refine r_cb ?_ | with_reducible refine r_tup ?_ | with_reducible refine r_lst ?_ | with_reducible refine r_if ?_ | with_reducible refine r_andV ?_ | with_reducible refine r_orV ?_ | with_reducible refine r_notV ?_ | with_reducible refine r_un ?_ | with_reducible refine r_mtL ?_ | with_reducible refine r_mtL0 ?_ | with_reducible refine r_sl ?_ | with_reducible refine r_revL ?_ | with_reducible refine r_revLL ?_ | with_reducible refine r_comp ?_ | with_reducible refine r_frz ?_ | with_reducible refine r_lstM ?_ | with_reducible refine r_chain ?_ | with_reducible refine r_callK ?_ | with_reducible refine r_callD ?_ | with_reducible refine r_compM_ ?_ | with_reducible refine r_comp2 ?_ | with_reducible refine r_gone ?_ | with_reducible refine r_newK ?_ | with_reducible refine r_newT ?_ | with_reducible refine r_oneK ?_ | with_reducible refine r_lockD ?_ | with_reducible refine r_dcK ?_ | with_reducible refine r_dcT ?_ | with_reducible refine r_dcKT ?_ | with_reducible refine r_lstR ?_ | with_reducible refine r_lstZ ?_ | with_reducible refine r_lstRM ?_ | with_reducible refine r_mtD ?_ | with_reducible refine r_get2 ?_ | with_reducible refine r_lenSet ?_ | with_reducible refine r_lrep ?_ | with_reducible refine r_slrep ?_ | with_reducible refine r_callG ?_ | ((with_reducible apply r_lam); (walk_at "tb")) | with_reducible refine r_ask ?_ | with_reducible refine r_why ?_ | with_reducible refine r_m1 ?_ | with_reducible refine r_fmt ?_ | with_reducible refine r_joined ?_)) | ((with_reducible refine g_a ?_); (first | with_reducible refine r_cons ?_ | with_reducible refine r_nil ?_ | with_reducible refine r_seqI ?_ | with_reducible refine r_tupI ?_ | with_reducible refine r_rg1 ?_ | with_reducible refine r_zipL ?_ | with_reducible refine r_anyI ?_ | with_reducible refine r_zip ?_ | with_reducible refine r_zipM ?_ | with_reducible refine r_keysI ?_ | with_reducible refine r_itT ?_ | with_reducible refine r_strI ?_ | with_reducible refine r_orT ?_ | with_reducible refine r_itK ?_ | with_reducible refine r_rg2 ?_ | with_reducible refine r_rev1 ?_ | with_reducible refine r_rg3 ?_)) | ((with_reducible refine g_2 ?_); (first | with_reducible refine r_ixR0 ?_ | with_reducible refine r_ixR1 ?_ | with_reducible refine r_add ?_ | with_reducible refine r_sub ?_ | with_reducible refine r_lt ?_ | with_reducible refine r_le ?_ | with_reducible refine r_gt ?_ | with_reducible refine r_ge ?_ | with_reducible refine r_eqI ?_ | with_reducible refine r_neI ?_ | with_reducible refine r_eqR ?_ | with_reducible refine r_neR ?_ | with_reducible refine r_eqSs ?_ | with_reducible refine r_neSs ?_ | with_reducible refine r_eqBs ?_ | with_reducible refine r_neBs ?_ | with_reducible refine r_isN ?_ | with_reducible refine r_notN ?_ | with_reducible refine r_isBs ?_ | with_reducible refine r_notBs ?_ | with_reducible refine r_isB ?_ | with_reducible refine r_notB ?_ | with_reducible refine r_eqB ?_ | with_reducible refine r_neB ?_ | with_reducible refine r_eqS ?_ | with_reducible refine r_neS ?_ | ((with_reducible apply r_ixT); (exact rfl)) | ((with_reducible apply r_ixL); (exact rfl)) | ((with_reducible apply r_ixM); (first | assumption | exact look_put (by assumption) | exact look_put (look_put (by assumption)) | exact look_put (look_put (look_put (by assumption))) | exact look_put (look_put (look_put (look_put (by assumption))))); (exact rfl)) | ((with_reducible apply r_mul); (first | exact mulOk_r (by decide) | exact mulOk_l (by decide) | assumption | exact mulOk_r (by omega) | exact mulOk_l (by omega))) | ((with_reducible apply r_mod); (first | assumption | decide)) | ((with_reducible apply r_div); (first | assumption | exact ⟨by decide, by decide⟩)) | ((with_reducible apply r_pow); (exact ⟨by decide, by decide, by decide⟩)) | with_reducible refine r_ixB0 ?_ | with_reducible refine r_ixB1 ?_ | with_reducible refine r_ixB2 ?_ | with_reducible refine r_ixB3 ?_ | with_reducible refine r_eqDn ?_ | with_reducible refine r_eqAc ?_ | with_reducible refine r_ix0 ?_ | with_reducible refine r_ix0T ?_ | ((with_reducible apply r_catLL); (walk_at "in")) | ((with_reducible apply r_catML); (walk_at "in")) | ((with_reducible apply r_catT); (walk_at "in")) | ((with_reducible apply r_catB); (walk_at "in")) | ((with_reducible apply r_catS); (walk_at "in")) | with_reducible refine r_inS ?_ | ((with_reducible apply r_getSh); (walk_at "in"); (walk_at "in"); (walk_at "in")) | ((with_reducible apply r_getKI); (first | assumption | (walk_at "lk"))) | ((with_reducible apply r_getKS); (first | assumption | (walk_at "lk"))) | ((with_reducible apply r_getT2); (first | assumption | (walk_at "lk"))) | ((with_reducible apply r_getMI); (first | exact look_hd | assumption); (first | assumption | (walk_at "lk"))) | ((with_reducible apply r_getMS); (first | exact look_hd | assumption); (first | assumption | (walk_at "lk"))) | ((with_reducible apply r_getMT2); (first | exact look_hd | assumption); (first | assumption | (walk_at "lk"))) | with_reducible refine r_inKI ?_ | with_reducible refine r_inKS ?_ | with_reducible refine r_inT2 ?_ | with_reducible refine r_notKI ?_ | with_reducible refine r_notKS ?_ | with_reducible refine r_inLI ?_ | with_reducible refine r_inTI ?_ | with_reducible refine r_niLI ?_ | with_reducible refine r_niTI ?_ | with_reducible refine r_inLS ?_ | with_reducible refine r_niLS ?_ | ((with_reducible apply r_inMI); (first | exact look_hd | assumption)) | ((with_reducible apply r_inMS); (first | exact look_hd | assumption)) | ((with_reducible apply r_notMI); (first | exact look_hd | assumption)) | ((with_reducible apply r_notMS); (first | exact look_hd | assumption)))) | ((with_reducible refine g_c ?_); (first | with_unfolding_none refine r_kT ?_ | with_unfolding_none refine r_kF ?_ | with_unfolding_none refine r_nT ?_ | with_unfolding_none refine r_nF ?_ | with_reducible refine r_isL ?_ | with_reducible refine r_isMH ?_ | ((with_reducible apply r_isDM); (first | exact look_hd | assumption)) | with_reducible refine r_ddK ?_ | ((with_reducible apply r_ddM); (first | exact look_hd | assumption)) | with_reducible refine r_flatB ?_)) | ((with_reducible refine g_t ?_); (first | with_reducible refine r_test ?_ | with_reducible refine r_and ?_ | with_reducible refine r_or ?_ | with_reducible refine r_not ?_ | with_reducible refine r_yes ?_)) | ((with_reducible refine g_p ?_); (first | with_reducible refine r_dn1 ?_ | with_reducible refine r_ac1 ?_ | with_reducible refine r_dn2 ?_ | with_reducible refine r_ac2 ?_ | with_reducible refine r_dn3 ?_ | with_reducible refine r_ac3 ?_ | with_reducible refine r_dn4 ?_ | with_reducible refine r_ac4 ?_ | with_reducible refine r_dn5 ?_ | with_reducible refine r_ac5 ?_ | with_reducible refine r_app11 ?_ | with_reducible refine r_app12 ?_ | with_reducible refine r_app21 ?_ | with_reducible refine r_app22 ?_ | with_reducible refine r_app31 ?_ | with_reducible refine r_app32 ?_ | with_reducible refine r_app41 ?_ | with_reducible refine r_app42 ?_ | with_reducible refine r_app51 ?_ | with_reducible refine r_app52 ?_ | walk_at "cl")) | ((with_reducible refine g_n ?_); (first | with_reducible refine r_abs ?_ | ((with_reducible apply r_isiT); (exact rfl)) | ((with_reducible apply r_isiF); (exact rfl)) | ((with_reducible apply r_isiTT); (exact rfl); (exact rfl); (exact rfl)) | ((with_reducible apply r_isiTF); (exact rfl); (exact rfl); (exact rfl)) | with_reducible refine r_tupleL ?_ | with_reducible refine r_tupleT ?_ | with_reducible refine r_lenL ?_ | with_reducible refine r_lenT ?_ | with_reducible refine r_listL ?_ | with_reducible refine r_listT ?_ | with_reducible refine r_listB ?_ | with_reducible refine r_lenB ?_ | with_reducible refine r_lenH ?_ | with_reducible refine r_lenXL ?_ | with_reducible refine r_tupH ?_ | with_reducible refine r_tupXL ?_ | with_reducible refine r_tupXT ?_ | with_reducible refine r_listXH ?_ | with_reducible refine r_listXL ?_ | with_reducible refine r_listXT ?_ | with_reducible refine r_listML ?_ | with_reducible refine r_listMT ?_ | with_reducible refine r_min2 ?_ | with_reducible refine r_max2 ?_ | with_reducible refine r_sumL ?_ | with_reducible refine r_sumT ?_ | ((with_reducible apply r_lenW); (assumption)) | ((with_reducible apply r_sumW); (assumption)))) | ((with_reducible refine g_g ?_); (first | with_reducible refine r_gN ?_ | ((with_reducible apply r_gT); (exact rfl)) | ((with_reducible apply r_gL); (exact rfl)) | with_reducible refine r_gStar ?_)) | ((with_reducible refine g_gs ?_); (first | with_reducible refine r_gCn ?_ | with_reducible refine r_gNl ?_)) | ((with_reducible refine g_m ?_); (first | ((with_reducible apply r_count); (exact rfl); (exact rfl)) | with_reducible refine r_clearH ?_ | ((with_reducible apply r_appendH); (walk_at "in")) | ((with_reducible apply r_updH); (walk_at "in")))) | ((with_reducible refine g_o ?_); (first | with_reducible refine r_noPart ?_ | with_reducible refine DL.r_part ?_)) | ((with_reducible refine g_w ?_); (first | ((with_reducible apply r_setL); (first | assumption | exact look_put (by assumption) | exact look_put (look_put (by assumption)) | exact look_put (look_put (look_put (by assumption))) | exact look_put (look_put (look_put (look_put (by assumption))))); (exact rfl)) | ((with_reducible apply r_setKI); (walk_at "in")) | ((with_reducible apply r_setKS); (walk_at "in")))) | with_reducible refine r_isStr ?_ | with_reducible refine r_jsC ?_ | with_reducible refine r_jsN ?_ | with_reducible refine r_neg ?_ | with_reducible refine r_slL ?_ | with_reducible refine r_slT ?_ | with_reducible refine r_slB ?_ | with_reducible refine r_frzH ?_ | (with_reducible refine ⟨_, _, rfl, look_hd, ?_⟩; rw [del_hd]) | with_reducible refine r_goneH ?_ | with_reducible refine r_slAL ?_ | with_reducible refine r_slAT ?_ | ((with_reducible apply r_setT2); (walk_at "in")) | (with_reducible refine ⟨_, rfl, look_hd, ?_⟩; rw [put_hd]) | (with_reducible refine ⟨_, rfl, Or.inl ⟨_, look_hd, ?_⟩⟩; rw [del_hd]) | (with_reducible refine ⟨_, rfl, Or.inr ⟨_, look_hd, ?_⟩⟩; rw [del_hd]) | with_reducible refine r_goneEx ?_ | with_reducible refine r_gvKI ?_ | with_reducible refine r_gvKS ?_ | ((with_reducible apply r_gvMI); (first | exact look_hd | assumption)) | ((with_reducible apply r_gvMS); (first | exact look_hd | assumption)) | with_reducible refine r_ks2 ?_ | with_reducible refine r_kkI ?_ | with_reducible refine r_kkS ?_ | ((with_reducible apply r_pk2); (exact rfl); (exact rfl)) | ((with_reducible apply r_pk1); (exact rfl)) | ((with_reducible apply r_lrepE); (walk_at "in"); (walk_at "in")) | refine And.intro (show _ ∈ exL by decide) ⟨_, rfl, ?_⟩))
local macro_rules | `(tactic| walk_at "nS") => `(tactic| ((with_reducible refine g_s ?_); (first | with_reducible refine r_raise ?_ | with_reducible refine q_sif ?_ | with_reducible refine q_set ?_ | with_reducible refine q_asg ?_ | with_reducible refine q_ret ?_ | with_reducible refine q_drop ?_ | with_reducible refine q_next ?_ | with_reducible refine q_par ?_ | with_reducible refine q_for ?_ | with_reducible refine q_par3 ?_ | with_reducible refine q_setix ?_ | with_reducible refine q_brk ?_ | with_reducible refine q_ct ?_ | with_reducible refine q_retN ?_ | with_reducible refine q_setDK ?_ | with_reducible refine q_setDT ?_ | with_reducible refine q_goneA ?_ | with_reducible refine q_frzA ?_ | ((with_reducible apply q_aug); (exact rfl)))))
local macro_rules | `(tactic| walk_at "nQ") => `(tactic| ((with_reducible refine g_s ?_); (first | with_reducible refine r_raise ?_ | with_reducible refine r_seq ?_ | with_reducible refine q_sif ?_ | with_reducible refine q_set ?_ | with_reducible refine q_asg ?_ | with_reducible refine q_ret ?_ | with_reducible refine q_drop ?_ | with_reducible refine q_next ?_ | with_reducible refine q_par ?_ | with_reducible refine q_for ?_ | with_reducible refine q_par3 ?_ | with_reducible refine q_setix ?_ | with_reducible refine q_brk ?_ | with_reducible refine q_ct ?_ | with_reducible refine q_retN ?_ | with_reducible refine q_setDK ?_ | with_reducible refine q_setDT ?_ | with_reducible refine q_goneA ?_ | with_reducible refine q_frzA ?_ | ((with_reducible apply q_aug); (exact rfl)))))
local macro_rules | `(tactic| walk_at "lk") => `(tactic| fail)
local macro_rules | `(tactic| walk_at "ge") => `(tactic| first | assumption | exact Rat.le_refl)
local macro_rules | `(tactic| walk_at "G1") => `(tactic| repeat (first | walk_at "nS" | walk_at "n0"))
local macro_rules | `(tactic| walk_at "GO") => `(tactic| repeat (first | walk_at "nQ" | walk_at "n0"))
local macro_rules | `(tactic| walk_at "nz") => `(tactic| first | assumption | (refine Rat.ne_of_gt ?_; walk_at "pz"))
local macro_rules | `(tactic| walk_at "pz") => `(tactic| first | assumption | (refine Bx.Pos.w ?_; assumption) | (refine Bx.Pos.h ?_; assumption) | (apply Rat.mul_pos <;> walk_at "pz") | (apply divInt_pos' <;> omega) | (apply Rat.div_pos <;> walk_at "pz"))
local macro_rules | `(tactic| walk_at "sy") => `(tactic| first | assumption | ((apply Bx.Sz.l); assumption) | ((apply Bx.Sz.t); assumption) | ((apply Bx.Sz.w); assumption) | ((apply Bx.Sz.h); assumption) | (apply Sz.absR; walk_at "sy") | (apply Sz.add <;> walk_at "sy") | (apply Sz.sub <;> walk_at "sy") | (apply Sz.mul <;> walk_at "sy") | ((apply Sz.shape); (walk_at "sy"); (walk_at "sy"); (walk_at "pz"); (walk_at "pz")) | ((apply Sz.div); (walk_at "sy"); (walk_at "sy"); (walk_at "nz")) | (apply Sz.frac <;> omega))
local macro_rules | `(tactic| walk_at "sz") => `(tactic| first | assumption | ((apply Sz.mono); (walk_at "sy"); (decide)) | ((apply Bx.Sz.mono); (assumption); (decide)) | exact ⟨by decide, by decide⟩)
local macro_rules | `(tactic| walk_at "bg") => `(tactic| first | assumption | exact BagStep.bag (by assumption) | ((refine BagIn.over ?_ ?_); (assumption); (walk_at "bg")))
local macro_rules | `(tactic| walk_at "in") => `(tactic| first | with_reducible assumption | omega | decide | (simp only [List.length_map, List.length_cons, List.length_nil, List.length_append, List.length_take, List.length_drop]; omega))
local macro_rules | `(tactic| walk_at "wd") => `(tactic| first | assumption | exact WD.l _ | exact WD.t _)
local macro_rules | `(tactic| walk_at "p9") => `(tactic| first | assumption | exact szlt (by omega) (by omega))
local macro_rules | `(tactic| walk_at "pb") => `(tactic| first | assumption)
local macro_rules | `(tactic| walk_at "zs") => `(tactic| first | assumption)
local macro_rules | `(tactic| walk_at "pl") => `(tactic| first | assumption | rfl | ((apply plD_Bxs); (walk_at "in")) | ((apply plD_ints); (walk_at "in")) | ((apply plD_intsT); (walk_at "in")) | exact plD_dR _)
local macro_rules | `(tactic| walk_at "tb") => `(tactic| first | with_reducible assumption | (apply tb_step; assumption; assumption; walk_at "tb") | (apply tb_cons; assumption; walk_at "tb") | (apply tb_put; assumption; walk_at "tb"))
local macro_rules | `(tactic| walk_at "wk") => `(tactic| first | assumption | exact WtOk.wok (by assumption))

abbrev FnP (K : PySem.W.Frag) (x : Str) (st : Stmt) (kws : List (Str × V)) (f : Addr) (fd : FuncData) (dvs : List V := []) : Prop := FunD K x x (defArgs st) (defBody st) (defScope st) dvs kws f fd
/-- what the top has written -/
structure Txt (K : PySem.W.Frag) (mg : Str → Option Value) : Type where
  fd_law_bag : FuncData
  F_law_bag : FnP K "_law_bag" s_law_bag [] (He.ga K "_law_bag") fd_law_bag
  g_law_bag : mg "_law_bag" = some (.ref (He.ga K "_law_bag"))
  fd_law_gcd : FuncData
  F_law_gcd : FnP K "_law_gcd" s_law_gcd [] (He.ga K "_law_gcd") fd_law_gcd
  g_law_gcd : mg "_law_gcd" = some (.ref (He.ga K "_law_gcd"))
  fd_law_part : FuncData
  F_law_part : FnP K "_law_part" s_law_part [] (He.ga K "_law_part") fd_law_part
  g_law_part : mg "_law_part" = some (.ref (He.ga K "_law_part"))
  fd_law_get : FuncData
  F_law_get : FnP K "_law_get" s_law_get [] (He.ga K "_law_get") fd_law_get
  g_law_get : mg "_law_get" = some (.ref (He.ga K "_law_get"))
  fd_law_far : FuncData
  F_law_far : FnP K "_law_far" s_law_far [] (He.ga K "_law_far") fd_law_far
  g_law_far : mg "_law_far" = some (.ref (He.ga K "_law_far"))
  fd_law_number : FuncData
  F_law_number : FnP K "_law_number" s_law_number [] (He.ga K "_law_number") fd_law_number
  g_law_number : mg "_law_number" = some (.ref (He.ga K "_law_number"))
  fd_law_some_part : FuncData
  F_law_some_part : FnP K "_law_some_part" s_law_some_part [] (He.ga K "_law_some_part") fd_law_some_part
  g_law_some_part : mg "_law_some_part" = some (.ref (He.ga K "_law_some_part"))
  fd_part_text : FuncData
  F_part_text : FnP K "part_text" s_part_text [] (He.ga K "part_text") fd_part_text
  g_part_text : mg "part_text" = some (.ref (He.ga K "part_text"))
  fd_law_same : FuncData
  F_law_same : FnP K "_law_same" s_law_same [] (He.ga K "_law_same") fd_law_same
  g_law_same : mg "_law_same" = some (.ref (He.ga K "_law_same"))
  fd_figures_in : FuncData
  F_figures_in : FnP K "figures_in" s_figures_in [] (He.ga K "figures_in") fd_figures_in [.int 200]
  g_figures_in : mg "figures_in" = some (.ref (He.ga K "figures_in"))
  fd_number_in : FuncData
  F_number_in : FnP K "number_in" s_number_in [] (He.ga K "number_in") fd_number_in [.int 200]
  g_number_in : mg "number_in" = some (.ref (He.ga K "number_in"))
  fd_is_whole : FuncData
  F_is_whole : FnP K "is_whole" s_is_whole [] (He.ga K "is_whole") fd_is_whole
  g_is_whole : mg "is_whole" = some (.ref (He.ga K "is_whole"))
  fd_common : FuncData
  F_common : FnP K "common" s_common [] (He.ga K "common") fd_common
  g_common : mg "common" = some (.ref (He.ga K "common"))
  fd_is_part : FuncData
  F_is_part : FnP K "is_part" s_is_part [] (He.ga K "is_part") fd_is_part
  g_is_part : mg "is_part" = some (.ref (He.ga K "is_part"))
  fd_read_part : FuncData
  F_read_part : FnP K "read_part" s_read_part [] (He.ga K "read_part") fd_read_part
  g_read_part : mg "read_part" = some (.ref (He.ga K "read_part"))
  fd_law_text : FuncData
  F_law_text : FnP K "_law_text" s_law_text [] (He.ga K "_law_text") fd_law_text
  g_law_text : mg "_law_text" = some (.ref (He.ga K "_law_text"))
  fd_law : FuncData
  F_law : FnP K "law" s_law [] (He.ga K "law") fd_law
  g_law : mg "law" = some (.ref (He.ga K "law"))
  n_abs : mg "abs" = none
  n_all : mg "all" = none
  n_bool : mg "bool" = none
  n_dict : mg "dict" = none
  n_int : mg "int" = none
  n_isinstance : mg "isinstance" = none
  n_len : mg "len" = none
  n_list : mg "list" = none
  n_range : mg "range" = none
  n_str : mg "str" = none
  n_tuple : mg "tuple" = none
  n_zip : mg "zip" = none
theorem b_law_bag {K : PySem.W.Frag} {mg : Str → Option Value} (T : Txt K mg) : Binds K T.fd_law_bag ["_law_script"] [] := FunD.bindsN T.F_law_bag fun _ _ _ _ _ _ us hl => match us, hl with | [_], _ => rfl
theorem b_law_gcd {K : PySem.W.Frag} {mg : Str → Option Value} (T : Txt K mg) : Binds K T.fd_law_gcd ["_law_one", "_law_other"] [] := FunD.bindsN T.F_law_gcd fun _ _ _ _ _ _ us hl => match us, hl with | [_, _], _ => rfl
theorem b_law_part {K : PySem.W.Frag} {mg : Str → Option Value} (T : Txt K mg) : Binds K T.fd_law_part ["_law_above", "_law_below"] [] := FunD.bindsN T.F_law_part fun _ _ _ _ _ _ us hl => match us, hl with | [_, _], _ => rfl
theorem b_law_get {K : PySem.W.Frag} {mg : Str → Option Value} (T : Txt K mg) : Binds K T.fd_law_get ["_law_bag_here", "_law_most"] [] := FunD.bindsN T.F_law_get fun _ _ _ _ _ _ us hl => match us, hl with | [_, _], _ => rfl
theorem b_law_far {K : PySem.W.Frag} {mg : Str → Option Value} (T : Txt K mg) : Binds K T.fd_law_far ["_law_bag_here", "_law_steps"] [] := FunD.bindsN T.F_law_far fun _ _ _ _ _ _ us hl => match us, hl with | [_, _], _ => rfl
theorem b_law_number {K : PySem.W.Frag} {mg : Str → Option Value} (T : Txt K mg) : Binds K T.fd_law_number ["_law_bag_here"] [] := FunD.bindsN T.F_law_number fun _ _ _ _ _ _ us hl => match us, hl with | [_], _ => rfl
theorem b_law_some_part {K : PySem.W.Frag} {mg : Str → Option Value} (T : Txt K mg) : Binds K T.fd_law_some_part ["_law_bag_here"] [] := FunD.bindsN T.F_law_some_part fun _ _ _ _ _ _ us hl => match us, hl with | [_], _ => rfl
theorem b_part_text {K : PySem.W.Frag} {mg : Str → Option Value} (T : Txt K mg) : Binds K T.fd_part_text ["one"] [] := FunD.bindsN T.F_part_text fun _ _ _ _ _ _ us hl => match us, hl with | [_], _ => rfl
theorem b_law_same {K : PySem.W.Frag} {mg : Str → Option Value} (T : Txt K mg) : Binds K T.fd_law_same ["_law_found", "_law_due"] [] := FunD.bindsN T.F_law_same fun _ _ _ _ _ _ us hl => match us, hl with | [_, _], _ => rfl
theorem bp_figures_in_1 {K : PySem.W.Frag} {mg : Str → Option Value} (T : Txt K mg) : ∃ ds, Vals ([.int 200] : List V) ds ∧ Binds K T.fd_figures_in ["text", "most"] ds := FunD.binds1 (ps := ["text", "most"]) T.F_figures_in 1 0 (by decide) rfl fun _ _ _ _ _ _ _ us its h1 h2 => match us, its, h1, h2 with | [_], [_], _, _ => ⟨_, rfl, rfl⟩
theorem bp_figures_in_2 {K : PySem.W.Frag} {mg : Str → Option Value} (T : Txt K mg) : ∃ ds, Vals ([] : List V) ds ∧ Binds K T.fd_figures_in ["text", "most"] ds := FunD.binds1 (ps := ["text", "most"]) T.F_figures_in 2 1 (by decide) rfl fun _ _ _ _ _ _ _ us its h1 h2 => match us, its, h1, h2 with | [_, _], [_], _, _ => ⟨_, rfl, rfl⟩
theorem bp_number_in_1 {K : PySem.W.Frag} {mg : Str → Option Value} (T : Txt K mg) : ∃ ds, Vals ([.int 200] : List V) ds ∧ Binds K T.fd_number_in ["text", "most"] ds := FunD.binds1 (ps := ["text", "most"]) T.F_number_in 1 0 (by decide) rfl fun _ _ _ _ _ _ _ us its h1 h2 => match us, its, h1, h2 with | [_], [_], _, _ => ⟨_, rfl, rfl⟩
theorem bp_number_in_2 {K : PySem.W.Frag} {mg : Str → Option Value} (T : Txt K mg) : ∃ ds, Vals ([] : List V) ds ∧ Binds K T.fd_number_in ["text", "most"] ds := FunD.binds1 (ps := ["text", "most"]) T.F_number_in 2 1 (by decide) rfl fun _ _ _ _ _ _ _ us its h1 h2 => match us, its, h1, h2 with | [_, _], [_], _, _ => ⟨_, rfl, rfl⟩
theorem b_is_whole {K : PySem.W.Frag} {mg : Str → Option Value} (T : Txt K mg) : Binds K T.fd_is_whole ["thing"] [] := FunD.bindsN T.F_is_whole fun _ _ _ _ _ _ us hl => match us, hl with | [_], _ => rfl
theorem b_common {K : PySem.W.Frag} {mg : Str → Option Value} (T : Txt K mg) : Binds K T.fd_common ["one", "other"] [] := FunD.bindsN T.F_common fun _ _ _ _ _ _ us hl => match us, hl with | [_, _], _ => rfl
theorem b_is_part {K : PySem.W.Frag} {mg : Str → Option Value} (T : Txt K mg) : Binds K T.fd_is_part ["thing"] [] := FunD.bindsN T.F_is_part fun _ _ _ _ _ _ us hl => match us, hl with | [_], _ => rfl
theorem b_read_part {K : PySem.W.Frag} {mg : Str → Option Value} (T : Txt K mg) : Binds K T.fd_read_part ["text"] [] := FunD.bindsN T.F_read_part fun _ _ _ _ _ _ us hl => match us, hl with | [_], _ => rfl
theorem b_law_text {K : PySem.W.Frag} {mg : Str → Option Value} (T : Txt K mg) : Binds K T.fd_law_text ["_law_part_now"] [] := FunD.bindsN T.F_law_text fun _ _ _ _ _ _ us hl => match us, hl with | [_], _ => rfl
theorem b_law {K : PySem.W.Frag} {mg : Str → Option Value} (T : Txt K mg) : Binds K T.fd_law ["_law_script"] [] := FunD.bindsN T.F_law fun _ _ _ _ _ _ us hl => match us, hl with | [_], _ => rfl

def sp_law_bag : DSp := fun ds cs P _ => ∃ ns : List Int, ds = [.lst (ns.map D.int)] ∧ ∀ p b, p ∉ adr cs → BagOk b → P (.opq (.ref p)) ((p, b) :: cs)

theorem sc_law_bag : FnScope ["_law_script"] ["_law_script"] (defScope s_law_bag) := ⟨rfl, rfl, rfl, by decide +kernel, rfl, by decide +kernel, by decide +kernel⟩
theorem ok_law_bag {P : Program} {w : World} {K : PySem.W.Frag} {mg : Str → Option Value} {base : Heap} (T : Txt K mg) : FnOk P w K mg base (L2.CX P w) 1 (He.ga K "_law_bag") T.fd_law_bag ["_law_script"] (spL K 1 sp_law_bag) := by
  apply ok_def (k := 0) T.F_law_bag sc_law_bag
  case hb =>
    intro cdv A outer s H E hr
    exact (dss_one (ds_ret (d_lstM (da_cons (d_callTy call_list_of adq_list rfl T.n_list (by decide +kernel) (da_cons (d_slice sl_list adq_slL (d_var 0) do_none (do_some d_int)) da_nil)) (da_cons d_int (da_cons d_int (da_cons (d_add d_int (d_callB call_len_seq adq_len rfl T.n_len (by decide +kernel) (da_cons (d_slice sl_list adq_slL (d_var 0) do_none (do_some d_int)) da_nil))) (da_cons d_int da_nil))))))))
  case hsp =>
    skip
    rintro ds cs Q Z ⟨ns, rfl, h⟩ _
    show ∀ p, p ∉ adr cs → Q (.opq (.ref p)) ((p, .lst [.lst (DL.cutD (ns.map D.int) none (some 63)), .int 0, .int 0, .int (9103 + ((DL.cutD (ns.map D.int) none (some 63)).length : Int)), .int 0]) :: cs)
    intro p hp
    have e : DL.cutD (ns.map D.int) none (some 63) = (ns.take (min 63 ns.length)).map D.int := by
      unfold DL.cutD
      simp [HT.sIx, List.map_take]
    have l : (DL.cutD (ns.map D.int) none (some 63)).length ≤ 63 := by
      rw [e, List.length_map, List.length_take]; omega
    refine h p _ hp ⟨ns.take (min 63 ns.length), 0, 0, 9103 + ((DL.cutD (ns.map D.int) none (some 63)).length : Int), 0, by rw [← e] <;> rfl, by omega, by omega, by omega⟩


def sp_law_gcd : DSp := fun ds cs P _ => ∃ a b : Nat, ds = [.int (a : Int), .int (b : Int)] ∧ P (.int (Nat.gcd a b : Int)) cs

theorem sc_law_gcd : FnScope ["_law_one", "_law_other"] ["_law_one", "_law_other"] (defScope s_law_gcd) := ⟨rfl, rfl, rfl, by decide +kernel, rfl, by decide +kernel, by decide +kernel⟩
theorem ok_law_gcd {P : Program} {w : World} {K : PySem.W.Frag} {mg : Str → Option Value} {base : Heap} (T : Txt K mg) : FnOk P w K mg base (L2.CX P w) 1 (He.ga K "_law_gcd") T.fd_law_gcd ["_law_one", "_law_other"] (spL K 2 sp_law_gcd) := by
  apply ok_def (k := 0) T.F_law_gcd sc_law_gcd
  case hb =>
    intro cdv A outer s H E hr
    exact (dss_cons (ds_while passD (dt_gt (d_var 1) d_int) (dss_one (ds_par (i := 0) (j := 1) rfl sc_law_gcd.nd rfl rfl (by decide) rfl rfl (da_cons (d_var 1) (da_cons (d_mod (d_var 0) (d_var 1)) da_nil)))))
      (dss_one (ds_ret (d_var 0))))
  case hsp =>
    skip
    rintro ds cs Q Z ⟨a, b, rfl, h⟩ _
    show (_ : WS) (finD Q Z) [some _, some _] cs
    walk_at "go"
    refine r_while (fun m ρ cs' => ∃ a' b' : Nat, ρ = [some (.int (a' : Int)), some (.int (b' : Int))] ∧ m = b' ∧ cs' = cs ∧ Nat.gcd a' b' = Nat.gcd a b) ⟨b, a, b, rfl, rfl, rfl, rfl⟩ ?_
    rintro m ρ cs' N ⟨a', b', rfl, hm, rfl, hg⟩ hN
    walk_at "go"
    refine ⟨fun hk => ?_, fun hk => ?_⟩
    · have hb : (b' : Int) ≠ 0 := by have := decT hk; omega
      have hb0 : (0 : Int) < b' := by omega
      walk_at "go"
      refine hN (a' % b') _ _ (by rw [hm]; exact Nat.mod_lt _ (by omega)) ⟨b', a' % b', rfl, rfl, rfl, ?_⟩
      rw [← hg, Nat.gcd_comm b', ← Nat.gcd_rec, Nat.gcd_comm]
    · have hb : (b' : Int) = 0 := by have := decF hk; omega
      have hb0 : b' = 0 := by omega
      rw [hb0]
      walk_at "go"
      rw [← hg, hb0, Nat.gcd_zero_right] at h
      exact h


def sp_law_part : DSp := fun ds cs P _ => ∃ a b : Int, ds = [.int a, .int b] ∧ b ≠ 0 ∧ b.natAbs < 2 ^ 9000 ∧ P (dR (Rat.divInt a b)) cs
theorem r_law_part {a b : Int} {cs : Cs} {P : DP} {Z : XZ} (b0 : b ≠ 0) (hb : b.natAbs < 2 ^ 9000) (h : P (dR (Rat.divInt a b)) cs) : sp_law_part [.int a, .int b] cs P Z := ⟨a, b, rfl, b0, hb, h⟩

theorem sc_law_part : FnScope ["_law_above", "_law_below", "_law_by"] ["_law_above", "_law_below"] (defScope s_law_part) := ⟨rfl, rfl, rfl, by decide +kernel, rfl, by decide +kernel, by decide +kernel⟩
theorem ok_law_part {P : Program} {w : World} {K : PySem.W.Frag} {mg : Str → Option Value} {base : Heap} (T : Txt K mg) : FnOk P w K mg base (L2.CX P w) 2 (He.ga K "_law_part") T.fd_law_part ["_law_above", "_law_below"] (spL K 2 sp_law_part) := by
  apply ok_def (k := 1) T.F_law_part sc_law_part
  case hb =>
    intro cdv A outer s H E hr
    exact (dss_cons (ds_if (dt_lt (d_var 1) d_int) (dss_one (ds_par (i := 0) (j := 1) rfl sc_law_part.nd rfl rfl (by decide) rfl rfl (da_cons (d_sub d_int (d_var 0)) (da_cons (d_sub d_int (d_var 1)) da_nil)))) dss_nil)
      (dss_cons (ds_set (i := 2) sc_law_part.nd rfl (Or.inl rfl) (d_callN (ok_law_gcd T) (hr.mono (by decide)) rfl T.g_law_gcd T.F_law_gcd.kp (b_law_gcd T) takesD (da_cons (d_callB call_abs adq_abs rfl T.n_abs (by decide +kernel) (da_cons (d_var 0) da_nil)) (da_cons (d_var 1) da_nil))))
      (dss_one (ds_ret (d_tup (da_cons (d_fdiv (d_var 0) (d_var 2)) (da_cons (d_fdiv (d_var 1) (d_var 2)) da_nil)))))))
  case hsp =>
    skip
    rintro ds cs Q Z ⟨a, b, rfl, hb, hs, h⟩ _
    show (_ : WS) (finD Q Z) [some _, some _, none] cs
    refine r_key (N := fun ρ' cs' => ∃ a' b' : Int, ρ' = [some (.int a'), some (.int b'), none] ∧ cs' = cs ∧ 0 < b' ∧ b'.natAbs < 2 ^ 9000 ∧ Rat.divInt a' b' = Rat.divInt a b) ?_ (fun nx key => ?_)
    · rintro ρ' cs' ⟨a', b', rfl, rfl, hp, hz, he⟩
      walk_at "go"
      rw [abs_nat]
      have hn : b' = (b'.natAbs : Int) := by omega
      refine ⟨a'.natAbs, b'.natAbs, by rw [← hn], ?_⟩
      have g := gcd_ok (a := a'.natAbs) (b := b'.natAbs) (by omega) hz
      obtain ⟨e1, e2⟩ := part_pos a' b' hp
      walk_at "go"
      show Q (.tup [.int (a' / _), .int (b' / _)]) cs'
      rw [e1, e2, he]
      exact h
    · walk_at "go"
      refine ⟨fun hk2 => ?_, fun hk2 => ?_⟩
      · have hlt := decT hk2
        walk_at "go"
        exact key _ _ ⟨0 - a, 0 - b, rfl, rfl, by omega, by rw [Int.zero_sub, Int.natAbs_neg]; exact hs, by rw [Int.zero_sub, Int.zero_sub]; exact part_neg a b⟩
      · have hlt := decF hk2
        walk_at "go"
        exact key _ _ ⟨a, b, rfl, rfl, by omega, hs, rfl⟩

local macro_rules | `(tactic| walk_at "cl") => `(tactic| (first | ((with_reducible apply r_law_part); (walk_at "in"); (walk_at "p9"))))

def sp_law_get : DSp := fun ds cs P _ => ∃ (p : Addr) (most : Int), ds = [.opq (.ref p), .int most] ∧ 0 < most ∧ most < 2 ^ 60 ∧ BagIn p cs ∧ ∀ r cs', 0 ≤ r → r < most → BagStep p cs cs' → P (.int r) cs'
theorem r_law_get {p : Addr} {m : Int} {cs : Cs} {P : DP} {Z : XZ} (m0 : 0 < m) (m1 : m < 2 ^ 60) (hb : BagIn p cs) (h : ∀ r cs', 0 ≤ r → r < m → BagStep p cs cs' → P (.int r) cs') : sp_law_get [.opq (.ref p), .int m] cs P Z := ⟨p, m, rfl, m0, m1, hb, h⟩

theorem sc_law_get : FnScope ["_law_bag_here", "_law_most", "_law_cell", "_law_got", "_law_before"] ["_law_bag_here", "_law_most"] (defScope s_law_get) := ⟨rfl, rfl, rfl, by decide +kernel, rfl, by decide +kernel, by decide +kernel⟩
theorem ok_law_get {P : Program} {w : World} {K : PySem.W.Frag} {mg : Str → Option Value} {base : Heap} (T : Txt K mg) : FnOk P w K mg base (L2.CX P w) 1 (He.ga K "_law_get") T.fd_law_get ["_law_bag_here", "_law_most"] (spL K 2 sp_law_get) := by
  apply ok_def (k := 0) T.F_law_get sc_law_get
  case hb =>
    intro cdv A outer s H E hr
    exact (dss_cons (ds_if (dt_w (dw_and (dt_lt (d_ixM (d_var 0) d_int) (d_var 1)) (dw_and1 (dt_lt (d_ixM (d_var 0) d_int) (d_callB call_len_seq adq_len rfl T.n_len (by decide +kernel) (da_cons (d_ixM (d_var 0) d_int) da_nil)))))) (dss_cons (ds_set (i := 2) sc_law_get.nd rfl (Or.inl rfl) (d_sub_ix (d_ixM (d_var 0) d_int) (d_ixM (d_var 0) d_int)))
      (dss_cons (ds_setix (d_add (d_ixM (d_var 0) d_int) d_int) (d_var 0) d_int)
      (dss_cons (ds_setix (d_if (dt_ge (d_var 2) (d_pow d_int d_int)) (d_sub (d_var 2) (d_pow d_int d_int)) d_int) (d_var 0) d_int)
      (dss_one (ds_setix (d_mod (d_add (d_add (d_mul (d_ixM (d_var 0) d_int) d_int) (d_mul (d_var 2) d_int)) (d_mul d_int (d_ixM (d_var 0) d_int))) d_int) (d_var 0) d_int))))) dss_nil)
      (dss_cons (ds_if (dt_ge (d_ixM (d_var 0) d_int) (d_var 1)) (dss_cons (ds_set (i := 3) sc_law_get.nd rfl (Or.inl rfl) (d_mod (d_ixM (d_var 0) d_int) (d_var 1)))
      (dss_cons (ds_setix (d_fdiv (d_ixM (d_var 0) d_int) (d_var 1)) (d_var 0) d_int)
      (dss_one (ds_ret (d_var 3))))) dss_nil)
      (dss_cons (ds_setix (d_add (d_ixM (d_var 0) d_int) d_int) (d_var 0) d_int)
      (dss_cons (ds_set (i := 4) sc_law_get.nd rfl (Or.inl rfl) (d_ixM (d_var 0) d_int))
      (dss_cons (ds_setix (d_mod (d_add (d_add (d_add (d_mul (d_var 4) (d_var 4)) (d_mul d_int (d_var 4))) (d_mul d_int (d_ixM (d_var 0) d_int))) d_int) d_int) (d_var 0) d_int)
      (dss_one (ds_ret (d_mod (d_add (d_fdiv (d_ixM (d_var 0) d_int) d_int) (d_mul (d_fdiv (d_var 4) d_int) d_int)) (d_var 1)))))))))
  case hsp =>
    skip
    rintro ds cs Q Z ⟨p, most, rfl, m0, m1, ⟨b, hl, cells, k, rest, seed, cnt, rfl, h0, h1, h2⟩, hh⟩ _
    have h : ∀ r b, 0 ≤ r → r < most → BagOk b → Q (.int r) (put p b cs) := fun r b x1 x2 x3 => hh r _ x1 x2 ⟨⟨b, look_put hl, x3⟩, b, rfl⟩
    show (_ : WS) (finD Q Z) [some _, some _, none, none, none] cs
    have dv := divOk m0 m1
    refine r_key (N := fun ρ' cs' => ∃ (c : Option D) (k1 : Nat) (rest1 seed1 : Int), ρ' = [some (.opq (.ref p)), some (.int most), c, none, none] ∧ look p cs' = some (.lst [.lst (cells.map D.int), .int (k1 : Int), .int rest1, .int seed1, .int cnt]) ∧ 0 ≤ rest1 ∧ 0 ≤ seed1 ∧ seed1 < 2147483629 ∧ ∀ r b, 0 ≤ r → r < most → BagOk b → Q (.int r) (put p b cs')) ?_ (fun nx key => ?_)
    · rintro ρ' cs' ⟨c, k1, rest1, seed1, rfl, hl', a0, a1, a2, hq⟩
      walk_at "go"
      refine ⟨fun hk => ?_, fun hk => ?_⟩
      · walk_at "go"
        exact hq _ _ (Int.emod_nonneg _ (by omega)) (Int.emod_lt_of_pos _ m0) ⟨cells, k1, rest1 / most, seed1, cnt, rfl, Int.ediv_nonneg a0 (by omega), a1, a2⟩
      · have hs : seed1.natAbs < 2 ^ 64 := by omega
        walk_at "go"
        show Q _ (put p _ (put p _ cs'))
        rw [put_put]
        refine hq _ _ (Int.emod_nonneg _ (by omega)) (Int.emod_lt_of_pos _ m0) ⟨cells, k1, rest1, _, cnt + 1, rfl, a0, Int.emod_nonneg _ (by decide), Int.emod_lt_of_pos _ (by decide)⟩
    · walk_at "go"
      refine ⟨fun hk => ?_, fun hk => ?_⟩
      · walk_at "go"
        refine ⟨fun hk2 => ?_, fun hk2 => ?_⟩
        · have hlen : (k : Int) < (cells.length : Int) := by simpa using decT hk2
          have hat : atD (cells.map D.int) (k : Int) = some (.int (cells[k]'(by omega))) := by
            refine atI_nat ?_
            rw [List.getElem?_map, List.getElem?_eq_getElem (by omega)]
            rfl
          walk_at "go"
          refine r_ixL hat ?_
          generalize cells[k]'(by omega) = cell
          walk_at "go"
          refine ⟨fun hk3 => ?_, fun hk3 => ?_⟩
          · have hc := decT hk3
            walk_at "go"
            refine key _ _ ⟨_, k + 1, _, _, rfl, look_put (look_put (look_put hl)), ?_, Int.emod_nonneg _ (by decide), Int.emod_lt_of_pos _ (by decide), fun r b x1 x2 x3 => ?_⟩
            · show (0 : Int) ≤ cell - 10 ^ 18
              have : (10 : Int) ^ 18 ≤ cell := hc
              omega
            · rw [put_put, put_put, put_put]
              exact h r b x1 x2 x3
          · walk_at "go"
            refine key _ _ ⟨_, k + 1, _, _, rfl, look_put (look_put (look_put hl)), Int.le_refl _, Int.emod_nonneg _ (by decide), Int.emod_lt_of_pos _ (by decide), fun r b x1 x2 x3 => ?_⟩
            rw [put_put, put_put, put_put]
            exact h r b x1 x2 x3
        · walk_at "go"
          exact key _ _ ⟨none, k, rest, seed, rfl, hl, h0, h1, h2, h⟩
      · walk_at "go"
        exact key _ _ ⟨none, k, rest, seed, rfl, hl, h0, h1, h2, h⟩

local macro_rules | `(tactic| walk_at "cl") => `(tactic| (first | ((with_reducible apply r_law_get); (walk_at "in"); (walk_at "in"); (walk_at "bg"))))

def sp_law_far : DSp := fun ds cs P _ => ∃ (p : Addr) (n : Nat), ds = [.opq (.ref p), .int (n : Int)] ∧ n ≤ 100 ∧ BagIn p cs ∧ ∀ r cs', 0 ≤ r → r < 1000 ^ n → BagStep p cs cs' → P (.int r) cs'

theorem sc_law_far : FnScope ["_law_bag_here", "_law_steps", "_law_found", "_law_step"] ["_law_bag_here", "_law_steps"] (defScope s_law_far) := ⟨rfl, rfl, rfl, by decide +kernel, rfl, by decide +kernel, by decide +kernel⟩
theorem ok_law_far {P : Program} {w : World} {K : PySem.W.Frag} {mg : Str → Option Value} {base : Heap} (T : Txt K mg) : FnOk P w K mg base (L2.CX P w) 2 (He.ga K "_law_far") T.fd_law_far ["_law_bag_here", "_law_steps"] (spL K 2 sp_law_far) := by
  apply ok_def (k := 1) T.F_law_far sc_law_far
  case hb =>
    intro cdv A outer s H E hr
    exact (dss_cons (ds_set (i := 2) sc_law_far.nd rfl (Or.inl rfl) d_int)
      (dss_cons (ds_for passD rfl (di_range1 rfl T.n_range (da_cons (d_var 1) da_nil)) (dg_name (i := 3) sc_law_far.nd rfl (Or.inl rfl)) (dss_one (ds_set (i := 2) sc_law_far.nd rfl (Or.inl rfl) (d_add (d_mul (d_var 2) d_int) (d_callN (ok_law_get T) (hr.mono (by decide)) rfl T.g_law_get T.F_law_get.kp (b_law_get T) takesD (da_cons (d_var 0) (da_cons d_int da_nil)))))))
      (dss_one (ds_ret (d_var 2)))))
  case hsp =>
    skip
    rintro ds cs Q Z ⟨p, n, rfl, hn, hb, h⟩ _
    show (_ : WS) (finD Q Z) [some _, some _, none, none] cs
    walk_at "go"
    refine ⟨⟨by omega, by omega⟩, ?_⟩
    refine r_loop0 (fun i ρ cs' => ∃ (r : Int) (c : Option D), ρ = [some (.opq (.ref p)), some (.int (n : Int)), some (.int r), c] ∧ 0 ≤ r ∧ r < 1000 ^ i ∧ BagStep p cs cs') ⟨0, none, rfl, by decide, by decide, BagStep.refl hb⟩ ?_ ?_
    · rintro i d ρ cs' N hd ⟨r, c, rfl, r0, r1, st⟩ hN
      obtain ⟨rfl, hi⟩ := rng_get hd
      walk_at "go"
      refine ⟨p, 1000, rfl, by decide, by decide, st.bag, fun g cs2 g0 g1 st2 => ?_⟩
      walk_at "go"
      refine hN _ _ ⟨_, _, rfl, by omega, ?_, st.trans st2⟩
      rw [Int.pow_succ]; omega
    · rintro ρ cs' ⟨r, c, rfl, r0, r1, st⟩
      walk_at "go"
      rw [rng_len, Int.toNat_natCast] at r1
      exact h _ _ r0 r1 st


def sp_law_number : DSp := fun ds cs P _ => ∃ (p : Addr), ds = [.opq (.ref p)] ∧ BagIn p cs ∧ ∀ (r : Int) cs', r.natAbs < 2 ^ 200 → BagStep p cs cs' → P (.int r) cs'
theorem r_law_number {p : Addr} {cs : Cs} {P : DP} {Z : XZ} (hb : BagIn p cs) (h : ∀ (r : Int) cs', r.natAbs < 2 ^ 200 → BagStep p cs cs' → P (.int r) cs') : sp_law_number [.opq (.ref p)] cs P Z := ⟨p, rfl, hb, h⟩

theorem sc_law_number : FnScope ["_law_bag_here", "_law_kind"] ["_law_bag_here"] (defScope s_law_number) := ⟨rfl, rfl, rfl, by decide +kernel, rfl, by decide +kernel, by decide +kernel⟩
theorem ok_law_number {P : Program} {w : World} {K : PySem.W.Frag} {mg : Str → Option Value} {base : Heap} (T : Txt K mg) : FnOk P w K mg base (L2.CX P w) 3 (He.ga K "_law_number") T.fd_law_number ["_law_bag_here"] (spL K 1 sp_law_number) := by
  apply ok_def (k := 2) T.F_law_number sc_law_number
  case hb =>
    intro cdv A outer s H E hr
    exact (dss_cons (ds_set (i := 1) sc_law_number.nd rfl (Or.inl rfl) (d_callN (ok_law_get T) (hr.mono (by decide)) rfl T.g_law_get T.F_law_get.kp (b_law_get T) takesD (da_cons (d_var 0) (da_cons d_int da_nil))))
      (dss_cons (ds_if (dt_lt (d_var 1) d_int) (dss_one (ds_ret (d_sub (d_callN (ok_law_get T) (hr.mono (by decide)) rfl T.g_law_get T.F_law_get.kp (b_law_get T) takesD (da_cons (d_var 0) (da_cons d_int da_nil))) d_int))) dss_nil)
      (dss_cons (ds_if (dt_eq hr.units (d_var 1) d_int) (dss_one (ds_ret (d_sub (d_callN (ok_law_get T) (hr.mono (by decide)) rfl T.g_law_get T.F_law_get.kp (b_law_get T) takesD (da_cons (d_var 0) (da_cons d_int da_nil))) d_int))) dss_nil)
      (dss_one (ds_ret (d_mul (d_add (d_callN (ok_law_far T) (hr.mono (by decide)) rfl T.g_law_far T.F_law_far.kp (b_law_far T) takesD (da_cons (d_var 0) (da_cons (d_sub_ix (d_lst (da_cons d_int (da_cons d_int da_nil))) (d_sub (d_var 1) d_int)) da_nil))) d_int) (d_sub d_int (d_mul d_int (d_callN (ok_law_get T) (hr.mono (by decide)) rfl T.g_law_get T.F_law_get.kp (b_law_get T) takesD (da_cons (d_var 0) (da_cons d_int da_nil)))))))))))
  case hsp =>
    skip
    rintro ds cs Q Z ⟨p, rfl, hb, h⟩ _
    show (_ : WS) (finD Q Z) [some _, none] cs
    walk_at "go"
    refine ⟨p, 5, rfl, by decide, by decide, hb, fun k cs1 k0 k1 st1 => ?_⟩
    walk_at "go"
    refine ⟨fun hk => ?_, fun hk => ?_⟩
    · walk_at "go"
      refine ⟨p, 9, rfl, by decide, by decide, st1.bag, fun g cs2 g0 g1 st2 => ?_⟩
      walk_at "go"
      exact h _ _ (by omega) (st1.trans st2)
    · walk_at "go"
      refine ⟨fun hk2 => ?_, fun hk2 => ?_⟩
      · walk_at "go"
        refine ⟨p, 2001, rfl, by decide, by decide, st1.bag, fun g cs2 g0 g1 st2 => ?_⟩
        walk_at "go"
        exact h _ _ (by omega) (st1.trans st2)
      · have a1 := decF hk
        have a2 := decF hk2
        have key : ∃ n : Nat, n ≤ 20 ∧ atD [.int 3, .int 20] (k - 3) = some (.int (n : Int)) := by
          rcases (show k = 3 ∨ k = 4 by omega) with e | e
          · exact ⟨3, by decide, by rw [e] <;> rfl⟩
          · exact ⟨20, by decide, by rw [e] <;> rfl⟩
        obtain ⟨n, hn, e⟩ := key
        walk_at "go"
        refine r_ixL e ?_
        walk_at "go"
        refine ⟨p, n, rfl, by omega, st1.bag, fun r cs2 r0 r1 st2 => ?_⟩
        have r2 : r < 1000 ^ 20 := Int.lt_of_lt_of_le r1 (p1000 hn)
        walk_at "go"
        refine ⟨p, 2, rfl, by decide, by decide, st2.bag, fun g cs3 g0 g1 st3 => ?_⟩
        walk_at "go"
        refine h _ _ ?_ ((st1.trans st2).trans st3)
        rcases (show g = 0 ∨ g = 1 by omega) with e | e
        · rw [e]; omega
        · rw [e]; omega

local macro_rules | `(tactic| walk_at "cl") => `(tactic| (first | ((with_reducible apply r_law_number); (walk_at "bg"))))

def sp_law_some_part : DSp := fun ds cs P _ => ∃ (p : Addr), ds = [.opq (.ref p)] ∧ BagIn p cs ∧ ∀ (r : Rat) cs', Sz 201 r → BagStep p cs cs' → P (dR r) cs'
theorem r_law_some_part {p : Addr} {cs : Cs} {P : DP} {Z : XZ} (hb : BagIn p cs) (h : ∀ (r : Rat) cs', Sz 201 r → BagStep p cs cs' → P (dR r) cs') : sp_law_some_part [.opq (.ref p)] cs P Z := ⟨p, rfl, hb, h⟩

theorem sc_law_some_part : FnScope ["_law_bag_here", "_law_below"] ["_law_bag_here"] (defScope s_law_some_part) := ⟨rfl, rfl, rfl, by decide +kernel, rfl, by decide +kernel, by decide +kernel⟩
theorem ok_law_some_part {P : Program} {w : World} {K : PySem.W.Frag} {mg : Str → Option Value} {base : Heap} (T : Txt K mg) : FnOk P w K mg base (L2.CX P w) 4 (He.ga K "_law_some_part") T.fd_law_some_part ["_law_bag_here"] (spL K 1 sp_law_some_part) := by
  apply ok_def (k := 3) T.F_law_some_part sc_law_some_part
  case hb =>
    intro cdv A outer s H E hr
    exact (dss_cons (ds_set (i := 1) sc_law_some_part.nd rfl (Or.inl rfl) (d_add (d_callB call_abs adq_abs rfl T.n_abs (by decide +kernel) (da_cons (d_callN (ok_law_number T) (hr.mono (by decide)) rfl T.g_law_number T.F_law_number.kp (b_law_number T) takesD (da_cons (d_var 0) da_nil)) da_nil)) d_int))
      (dss_one (ds_ret (d_callN (ok_law_part T) (hr.mono (by decide)) rfl T.g_law_part T.F_law_part.kp (b_law_part T) takesD (da_cons (d_callN (ok_law_number T) (hr.mono (by decide)) rfl T.g_law_number T.F_law_number.kp (b_law_number T) takesD (da_cons (d_var 0) da_nil)) (da_cons (d_if (dt_gt (d_callN (ok_law_get T) (hr.mono (by decide)) rfl T.g_law_get T.F_law_get.kp (b_law_get T) takesD (da_cons (d_var 0) (da_cons d_int da_nil))) d_int) (d_var 1) d_int) da_nil))))))
  case hsp =>
    skip
    rintro ds cs Q Z ⟨p, rfl, hb, h⟩ _
    show (_ : WS) (finD Q Z) [some _, none] cs
    walk_at "go"
    refine ⟨p, rfl, hb, fun a cs1 a1 st1 => ?_⟩
    walk_at "go"
    refine ⟨p, rfl, st1.bag, fun b cs2 b1 st2 => ?_⟩
    walk_at "go"
    refine ⟨p, 3, rfl, by decide, by decide, st2.bag, fun g cs3 g0 g1 st3 => ?_⟩
    walk_at "go"
    have st := (st1.trans st2).trans st3
    have big : ∀ c : Int, 0 < c → c < 2 ^ 201 → b.natAbs < 2 ^ 201 ∧ c.natAbs < 2 ^ 201 := fun c h1 h2 => ⟨by omega, by omega⟩
    have fin : ∀ c : Int, 0 < c → c < 2 ^ 201 → sp_law_part [.int b, .int c] cs3 Q (fun x cs1 => Z x cs1) := fun c h1 h2 => by
      obtain ⟨e1, e2⟩ := big c h1 h2
      exact ⟨b, c, rfl, by omega, Nat.lt_of_lt_of_le e2 (Nat.pow_le_pow_right (by decide) (by decide)), h _ _ (Sz.divInt (n := 201) (m := 201) (by omega) e1 e2 (Nat.le_refl _)) st⟩
    refine ⟨fun hk => ?_, fun hk => ?_⟩
    · walk_at "go"
      exact fin _ (by split <;> omega) (by split <;> omega)
    · walk_at "go"
      exact fin 1 (by decide) (by decide)

local macro_rules | `(tactic| walk_at "cl") => `(tactic| (first | ((with_reducible apply r_law_some_part); (walk_at "bg"))))

def sp_part_text : DSp := fun ds cs P _ => ∃ r : Rat, ds = [dR r] ∧ Sz 1900 r ∧ P (.str (txtR r)) cs
theorem r_part_text {r : Rat} {cs : Cs} {P : DP} {Z : XZ} (hs : Sz 1900 r) (h : P (.str (txtR r)) cs) : sp_part_text [dR r] cs P Z := ⟨r, rfl, hs, h⟩

theorem sc_part_text : FnScope ["one", "above", "below"] ["one"] (defScope s_part_text) := ⟨rfl, rfl, rfl, by decide +kernel, rfl, by decide +kernel, by decide +kernel⟩
theorem ok_part_text {P : Program} {w : World} {K : PySem.W.Frag} {mg : Str → Option Value} {base : Heap} (T : Txt K mg) : FnOk P w K mg base (L2.CX P w) 1 (He.ga K "part_text") T.fd_part_text ["one"] (spL K 1 sp_part_text) := by
  apply ok_def (k := 0) T.F_part_text sc_part_text
  case hb =>
    intro cdv A outer s H E hr
    exact (dss_cons (ds_asg (d_var 0) (dg_tup (n := 2) rfl (dgs_cons (dg_name (i := 1) sc_part_text.nd rfl (Or.inl rfl)) (dgs_cons (dg_name (i := 2) sc_part_text.nd rfl (Or.inl rfl)) dgs_nil))))
      (dss_one (ds_ret (d_if (dt_eq hr.units (d_var 2) d_int) (d_callTy call_str_int adq_strI rfl T.n_str (by decide +kernel) (da_cons (d_var 1) da_nil)) (d_joined (.cons (d_fmt (d_var 1)) (.cons d_str (.cons (d_fmt (d_var 2)) .nil))))))))
  case hsp =>
    skip
    rintro ds cs Q Z ⟨r, rfl, hs, h⟩ _
    have hd : ((r.den : Int)).natAbs < 2 ^ 1900 := by rw [Int.natAbs_natCast]; exact hs.2
    have l1 := log_of hs.1 (Nat.le_refl _)
    have l2 := log_of hd (Nat.le_refl _)
    have n1 := numT_sz hs.1
    have n2 := numT_sz hd
    unfold txtR at h
    have e0 : ∀ x : Str, Str.empty ++ x = x := fun x => TL.ext_tl (by rw [TL.tl_append]; rfl)
    show (_ : WS) (finD Q Z) [some _, none, none] cs
    unfold dR
    walk_at "GO"
    by_cases hd : (r.den : Int) = 1
    · refine r_pos hd ?_
      rw [if_pos hd] at h
      walk_at "GO"
      exact ⟨l1, h⟩
    · refine r_neg_ hd ?_
      rw [if_neg hd] at h
      walk_at "GO"
      refine ⟨l1, ?_⟩
      walk_at "GO"
      refine ⟨by rw [e0]; show (numT r.num).length ≤ _; omega, ?_⟩
      walk_at "GO"
      rw [e0]
      refine ⟨by rw [TL.len_tl, TL.tl_append, List.length_append]; show (TL.tl (numT r.num)).length + 1 ≤ _; rw [← TL.len_tl]; omega, ?_⟩
      walk_at "GO"
      refine ⟨l2, ?_⟩
      walk_at "GO"
      refine ⟨by rw [TL.len_tl, TL.tl_append, List.length_append, TL.tl_append, List.length_append]; show (TL.tl (numT r.num)).length + 1 + (TL.tl (numT (r.den : Int))).length ≤ _; rw [← TL.len_tl, ← TL.len_tl]; omega, ?_⟩
      walk_at "GO"
      exact h

local macro_rules | `(tactic| walk_at "cl") => `(tactic| (first | ((with_reducible apply r_part_text); (walk_at "sz"))))

def sp_law_same : Nat → DSp
  | 0 => fun _ _ _ _ => False
  | n + 1 => fun ds cs P _ => ∃ d, ds = [d, d] ∧ n ≤ 10 ∧ plD n d = true ∧ P (.bl true) cs
theorem r_law_same {d : D} {cs : Cs} {P : DP} {Z : XZ} (hd : plD 5 d = true) (h : P (.bl true) cs) : sp_law_same 6 [d, d] cs P Z := ⟨d, rfl, by decide, hd, h⟩

theorem sc_law_same : FnScope ["_law_found", "_law_due", "_law_key_now", "_law_one", "_law_other"] ["_law_found", "_law_due"] (defScope s_law_same) := ⟨rfl, rfl, rfl, by decide +kernel, rfl, by decide +kernel, by decide +kernel⟩
theorem ok_law_same {P : Program} {w : World} {K : PySem.W.Frag} {mg : Str → Option Value} {base : Heap} (T : Txt K mg) (n : Nat) : FnOk P w K mg base (L2.CX P w) (n + 1) (He.ga K "_law_same") T.fd_law_same ["_law_found", "_law_due"] (spL K 2 (sp_law_same n)) := by
  induction n with
  | zero => exact vacF
  | succ n G =>
  rw [show n + 1 + 1 = (n + 1) + 1 from by omega]
  apply ok_def (k := n + 1) T.F_law_same sc_law_same
  case hb =>
    intro cdv A outer s H E hr
    exact (dss_cons (ds_if (dt_val (d_callB call_isi adq_isi rfl T.n_isinstance (by decide +kernel) (da_cons (d_var 1) (da_cons (d_ty (n := "dict") rfl T.n_dict (by decide +kernel)) da_nil)))) dss_never dss_nil)
      (dss_cons (ds_if (dt_val (d_callB call_isiD adq_isiT rfl T.n_isinstance (by decide +kernel) (da_cons (d_var 1) (da_cons (d_tup (da_cons (d_ty (n := "list") rfl T.n_list (by decide +kernel)) (da_cons (d_ty (n := "tuple") rfl T.n_tuple (by decide +kernel)) da_nil))) da_nil)))) (dss_cons (ds_if (dt_w (dw_or (dt_ne hr.units (d_callB call_isi adq_isi rfl T.n_isinstance (by decide +kernel) (da_cons (d_var 0) (da_cons (d_ty (n := "tuple") rfl T.n_tuple (by decide +kernel)) da_nil))) (d_callB call_isi adq_isi rfl T.n_isinstance (by decide +kernel) (da_cons (d_var 1) (da_cons (d_ty (n := "tuple") rfl T.n_tuple (by decide +kernel)) da_nil)))) (dw_or1 (dt_ne hr.units (d_callB call_isi adq_isi rfl T.n_isinstance (by decide +kernel) (da_cons (d_var 0) (da_cons (d_ty (n := "list") rfl T.n_list (by decide +kernel)) da_nil))) (d_callB call_isi adq_isi rfl T.n_isinstance (by decide +kernel) (da_cons (d_var 1) (da_cons (d_ty (n := "list") rfl T.n_list (by decide +kernel)) da_nil))))))) (dss_one (ds_ret d_bl)) dss_nil)
      (dss_one (ds_ret (d_and (d_eq hr.units (d_callB call_len_seq adq_len rfl T.n_len (by decide +kernel) (da_cons (d_var 0) da_nil)) (d_callB call_len_seq adq_len rfl T.n_len (by decide +kernel) (da_cons (d_var 1) da_nil))) (d_one (d_callB (cr_all rfl) adq_all rfl T.n_all (by decide +kernel) (da_cons (d_lc rfl sc_law_same.nd (di_zip rfl T.n_zip (da_cons (d_var 0) (da_cons (d_var 1) da_nil))) (blkOk_by (own := [("_law_one", 3), ("_law_other", 4)]) (N := ["_law_found", "_law_due", "_law_key_now", "_law_one", "_law_other"]) (sc := defScope s_law_same) (by decide +kernel)) (gok_two (by decide) (by decide)) (fun _ _ _ _ _ => (pg_tup (n := 2) rfl (pgs_cons (pg_name (i := 3) sc_law_same.nd rfl (Or.inl rfl)) (pgs_cons (pg_name (i := 4) sc_law_same.nd rfl (Or.inl rfl)) pgs_nil)))) (fun _ _ _ _ _ => dts_nil) (fun _ _ _ _ _ => (d_callN G hr rfl T.g_law_same T.F_law_same.kp (b_law_same T) takes0 (da_cons (d_var 3) (da_cons (d_var 4) da_nil))))) da_nil))))))) dss_nil)
      (dss_cons (ds_if (dt_w (dw_or (dt_ne hr.units (d_callB call_isi adq_isi rfl T.n_isinstance (by decide +kernel) (da_cons (d_var 1) (da_cons (d_ty (n := "bool") rfl T.n_bool (by decide +kernel)) da_nil))) (d_callB call_isi adq_isi rfl T.n_isinstance (by decide +kernel) (da_cons (d_var 0) (da_cons (d_ty (n := "bool") rfl T.n_bool (by decide +kernel)) da_nil)))) (dw_or1 (dt_ne hr.units (d_callB call_isi adq_isi rfl T.n_isinstance (by decide +kernel) (da_cons (d_var 1) (da_cons (d_ty (n := "str") rfl T.n_str (by decide +kernel)) da_nil))) (d_callB call_isi adq_isi rfl T.n_isinstance (by decide +kernel) (da_cons (d_var 0) (da_cons (d_ty (n := "str") rfl T.n_str (by decide +kernel)) da_nil))))))) (dss_one (ds_ret d_bl)) dss_nil)
      (dss_cons (ds_if (dt_ne hr.units (d_callB call_isi adq_isi rfl T.n_isinstance (by decide +kernel) (da_cons (d_var 1) (da_cons (d_ty (n := "int") rfl T.n_int (by decide +kernel)) da_nil))) (d_callB call_isi adq_isi rfl T.n_isinstance (by decide +kernel) (da_cons (d_var 0) (da_cons (d_ty (n := "int") rfl T.n_int (by decide +kernel)) da_nil)))) (dss_one (ds_ret d_bl)) dss_nil)
      (dss_one (ds_ret (d_and (d_eq hr.units (d_is (d_var 1) d_non) (d_is (d_var 0) d_non)) (d_one (d_eq hr.units (d_var 0) (d_var 1))))))))))
  case hsp =>
    skip
    rintro ds cs Q Z ⟨d, rfl, hn, hd, h⟩ _
    show (_ : WS) (finD Q Z) [some _, some _, none, none, none] cs
    have hd20 := plD_mono d hd (show n ≤ 20 by omega)
    have done_ : ∀ xs : List D, plL (n - 1) xs = true → 0 < n → ∀ x ∈ List.zipWith (fun d e => D.tup [d, e]) xs xs, ∃ y, x = .tup [y, y] ∧ plD (n - 1) y = true := by
      intro xs hx _ x hm
      rw [List.zipWith_self] at hm
      obtain ⟨y, hy, rfl⟩ := List.mem_map.mp hm
      exact ⟨y, rfl, plL_mem hx hy⟩
    cases d <;> try first
      | (cases n <;> simp [plD] at hd; done)
      | (walk_at "go"; first | exact h | (simpa using h) | (refine r_eqSelf hd20 ?_; exact h))
    all_goals
      rename_i xs hlen
      cases n with
      | zero => simp [plD] at hd
      | succ m =>
        have key := done_ xs (by first | exact plD_t hd | exact plD_l hd) (by omega)
        have hz : xs.length ≤ 100000 := by first | exact plD_tn hd | exact plD_ln hd
        walk_at "go"
        refine ⟨fun _ => ?_, fun z => absurd (show (xs.length : Int) = xs.length from rfl) (decF z)⟩
        walk_at "go"
        refine ⟨by rw [List.length_zipWith]; omega, ?_⟩
        refine r_compM (fun _ => .bl true) (fun d N N' hd hN => ?_) ?_
        · obtain ⟨y, rfl, hy⟩ := key d hd
          walk_at "go"
          exact ⟨y, rfl, by omega, hy, hN⟩
        walk_at "go"
        refine r_all (ns := List.replicate (List.zipWith (fun d e => D.tup [d, e]) xs xs).length true) (by rw [show (List.zipWith (fun d e => D.tup [d, e]) xs xs).map (fun _ => D.bl true) = (List.replicate (List.zipWith (fun d e => D.tup [d, e]) xs xs).length true).map D.bl by rw [List.map_replicate]; exact List.map_const']; exact blsOf_map _) ?_
        rw [List.all_replicate]
        simpa using h

local macro_rules | `(tactic| walk_at "cl") => `(tactic| (first | ((with_reducible apply r_law_same); (walk_at "pl"))))

def sp_figures_in : DSp := fun ds cs P _ => ∃ (z : Str) (m : Nat), ds = [.str z, .int (m : Int)] ∧ FigOk (TL.tl z) m ∧ m ≤ 600 ∧ P (.int ((NumText.digitsVal (TL.tl z) : Nat) : Int)) cs
theorem r_figures_in {z : Str} {m : Nat} {cs : Cs} {P : DP} {Z : XZ} (hz : FigOk (TL.tl z) m) (hm : m ≤ 600) (h : P (.int ((NumText.digitsVal (TL.tl z) : Nat) : Int)) cs) : sp_figures_in [.str z, .int (m : Int)] cs P Z := ⟨z, m, rfl, hz, hm, h⟩

theorem sc_figures_in : FnScope ["text", "most", "sign"] ["text", "most"] (defScope s_figures_in) := ⟨rfl, rfl, rfl, by decide +kernel, rfl, by decide +kernel, by decide +kernel⟩
theorem ok_figures_in {P : Program} {w : World} {K : PySem.W.Frag} {mg : Str → Option Value} {base : Heap} (T : Txt K mg) : FnOk P w K mg base (L2.CX P w) 1 (He.ga K "figures_in") T.fd_figures_in ["text", "most"] (spL K 2 sp_figures_in) := by
  apply ok_def (k := 0) T.F_figures_in sc_figures_in
  case hb =>
    intro cdv A outer s H E hr
    exact (dss_cons (ds_if (dt_w (dw_or (dt_not (dt_chain_le_le d_int (d_callB call_len_str adq_lenS rfl T.n_len (by decide +kernel) (da_cons (d_var 0) da_nil)) (d_var 1))) (dw_or1 (dt_not (dt_val (d_callB (cr_all rfl) adq_all rfl T.n_all (by decide +kernel) (da_cons (d_lc rfl sc_figures_in.nd (di_str (d_var 0)) (blkOk_by (own := [("sign", 2)]) (N := ["text", "most", "sign"]) (sc := defScope s_figures_in) (by decide +kernel)) (gok_name (by decide)) (fun _ _ _ _ _ => (pg_name (i := 2) sc_figures_in.nd rfl (Or.inl rfl))) (fun _ _ _ _ _ => dts_nil) (fun _ _ _ _ _ => (d_inS (d_var 2) d_str))) da_nil))))))) (dss_one ds_never) dss_nil)
      (dss_cons (ds_if (dt_w (dw_and (dt_eq hr.units (d_ixS (d_var 0) d_int) d_str) (dw_and1 (dt_gt (d_callB call_len_str adq_lenS rfl T.n_len (by decide +kernel) (da_cons (d_var 0) da_nil)) d_int)))) (dss_one ds_never) dss_nil)
      (dss_one (ds_ret (d_callTy call_int_str adq_intS rfl T.n_int (by decide +kernel) (da_cons (d_var 0) da_nil))))))
  case hsp =>
    skip
    rintro ds cs Q Z ⟨z, m, rfl, hz, hm, h⟩ _
    have hlen : z.length = (TL.tl z).length := TL.len_tl z
    have l1 := hz.len
    have l0 : 1 ≤ (TL.tl z).length := by
      have := hz.ne
      cases hq : TL.tl z with
      | nil => exact absurd hq this
      | cons c r => rw [List.length_cons]; omega
    show (_ : WS) (finD Q Z) [some _, some _, none] cs
    walk_at "GO"
    refine r_lenS (by omega) ?_
    walk_at "GO"
    rw [decide_eq_true (show (1 : Int) ≤ (z.length : Int) by omega)]
    walk_at "GO"
    rw [decide_eq_true (show (z.length : Int) ≤ (m : Int) by omega)]
    walk_at "GO"
    refine ⟨by rw [List.length_map]; show z.cps.toList.length ≤ _; have : z.cps.toList.length = (TL.tl z).length := rfl; omega, ?_⟩
    refine r_cm (fun c => .bl true) (fun c N N' hm2 hN => ?_) ?_
    · walk_at "GO"
      rw [decide_eq_true ((dig_iff c).mpr (hz.dig c hm2))]
      exact hN
    walk_at "GO"
    refine r_all (ns := z.cps.toList.map fun _ => true) (by rw [show (z.cps.toList.map fun _ => D.bl true) = ((z.cps.toList.map fun _ => true).map D.bl) by rw [List.map_map]; rfl]; exact blsOf_map _) ?_
    rw [show (z.cps.toList.map fun _ => true).all id = true by simp]
    walk_at "GO"
    obtain ⟨c, r, hc⟩ : ∃ c r, TL.tl z = c :: r := by
      cases hq : TL.tl z with
      | nil => exact absurd hq hz.ne
      | cons c r => exact ⟨c, r, rfl⟩
    refine r_ixS (c := c) (by omega) (atI0 hc) ?_
    walk_at "GO"
    have fin : sRet (wCB oIntS (wCons (wVar 0) wNil)) { nx := fun x cs => Q D.non cs, rt := Q, ex := fun x x_1 cs => Z x cs } [some (D.str z), some (D.int ↑m), none] cs := by
      walk_at "GO"
      refine r_intS (intText_digits hz.dig hz.ne (by omega)) (by omega) ?_
      exact h
    by_cases h0 : c = 48
    · refine r_pos ((sgn_iff zero_sgn).mpr h0) ?_
      walk_at "GO"
      refine r_lenS (by omega) ?_
      walk_at "GO"
      refine r_neg_ (by have := hz.hd (by rw [hc, h0]; rfl); omega) ?_
      walk_at "GO"
      exact fin
    · refine r_neg_ (fun e => h0 ((sgn_iff zero_sgn).mp e)) ?_
      walk_at "GO"
      exact fin


theorem cutS_tl (z : Str) (lo hi : Option Int) : TL.tl (cutS z lo hi) = ((TL.tl z).drop (HT.sIx z.length 0 lo)).take (HT.sIx z.length z.length hi - HT.sIx z.length 0 lo) := rfl
def NumOk (z : Str) (i : Int) (m : Nat) : Prop := ∃ n : Nat, (TL.numL n).length ≤ m ∧ ((i = n ∧ TL.tl z = TL.numL n) ∨ (n ≠ 0 ∧ i = -(n : Int) ∧ TL.tl z = 45 :: TL.numL n))
theorem numOk_num {i : Int} {k : Nat} (hk : 0 < k) (h : i.natAbs < 10 ^ k) : NumOk (numT i) i k := by
  by_cases h0 : 0 ≤ i
  · obtain ⟨n, rfl⟩ : ∃ n : Nat, i = n := ⟨i.toNat, by omega⟩
    exact ⟨n, numL_len10 hk (by simpa using h), .inl ⟨rfl, tl_numN n⟩⟩
  · obtain ⟨n, rfl, hn⟩ : ∃ n : Nat, i = -(n : Int) ∧ n ≠ 0 := ⟨i.natAbs, by omega, by omega⟩
    exact ⟨n, numL_len10 hk (by simpa using h), .inr ⟨hn, rfl, tl_numNeg hn⟩⟩
def sp_number_in : DSp := fun ds cs P _ => ∃ (z : Str) (i : Int) (m : Nat), ds = [.str z, .int (m : Int)] ∧ NumOk z i m ∧ m ≤ 600 ∧ P (.int i) cs
theorem r_number_in {z : Str} {i : Int} {m : Nat} {cs : Cs} {P : DP} {Z : XZ} (hz : NumOk z i m) (hm : m ≤ 600) (h : P (.int i) cs) : sp_number_in [.str z, .int (m : Int)] cs P Z := ⟨z, i, m, rfl, hz, hm, h⟩

theorem sc_number_in : FnScope ["text", "most", "found"] ["text", "most"] (defScope s_number_in) := ⟨rfl, rfl, rfl, by decide +kernel, rfl, by decide +kernel, by decide +kernel⟩
theorem ok_number_in {P : Program} {w : World} {K : PySem.W.Frag} {mg : Str → Option Value} {base : Heap} (T : Txt K mg) : FnOk P w K mg base (L2.CX P w) 2 (He.ga K "number_in") T.fd_number_in ["text", "most"] (spL K 2 sp_number_in) := by
  apply ok_def (k := 1) T.F_number_in sc_number_in
  case hb =>
    intro cdv A outer s H E hr
    exact (dss_cons (ds_if (dt_ne hr.units (d_slice sl_str adq_slS (d_var 0) do_none (do_some d_int)) d_str) (dss_one (ds_ret (d_callD (dds := []) (ok_figures_in T) (hr.mono (by decide)) rfl T.g_figures_in T.F_figures_in.kp (bp_figures_in_2 T) (fun _ => RepL.nil) takesD (da_cons (d_var 0) (da_cons (d_var 1) da_nil))))) dss_nil)
      (dss_cons (ds_set (i := 2) sc_number_in.nd rfl (Or.inl rfl) (d_callD (dds := []) (ok_figures_in T) (hr.mono (by decide)) rfl T.g_figures_in T.F_figures_in.kp (bp_figures_in_2 T) (fun _ => RepL.nil) takesD (da_cons (d_slice sl_str adq_slS (d_var 0) (do_some d_int) do_none) (da_cons (d_var 1) da_nil))))
      (dss_cons (ds_if (dt_eq hr.units (d_var 2) d_int) (dss_one ds_never) dss_nil)
      (dss_one (ds_ret (d_neg (d_var 2)))))))
  case hsp =>
    skip
    rintro ds cs Q Z ⟨z, i, m, rfl, ⟨n, hn, hz⟩, hm, h⟩ _
    have hlen : z.length = (TL.tl z).length := TL.len_tl z
    have hc1 : TL.tl (cutS z none (some 1)) = (TL.tl z).take 1 := by
      rw [cutS_tl]
      show ((TL.tl z).drop 0).take (min 1 z.length - 0) = _
      rw [List.drop_zero, Nat.sub_zero]
      by_cases h1 : 1 ≤ z.length
      · rw [Nat.min_eq_left h1]
      · rw [Nat.min_eq_right (by omega), List.take_of_length_le (by omega), List.take_of_length_le (by omega)]
    have minus : TL.tl (Str.ofString "-") = [45] := by decide +kernel
    show (_ : WS) (finD Q Z) [some _, some _, none] cs
    walk_at "GO"
    rcases hz with ⟨rfl, hz⟩ | ⟨hn0, rfl, hz⟩
    · have l : z.length ≤ 600 := by rw [hlen, hz]; omega
      refine r_slS (by omega) ?_
      walk_at "GO"
      have hne : cutS z none (some 1) ≠ "-" := fun e => by
        have e2 := congrArg TL.tl e
        rw [hc1, hz, minus] at e2
        have : 45 ∈ TL.numL n := List.mem_of_mem_take (by rw [e2]; exact List.mem_singleton.mpr rfl)
        exact TL.numL_free (.inl (by decide)) this
      refine r_nneg hne ?_
      walk_at "GO"
      refine ⟨z, m, rfl, by rw [hz]; exact figOk_num hn, hm, ?_⟩
      rw [hz, TL.numL_val]
      exact h
    · have l : z.length ≤ 601 := by rw [hlen, hz, List.length_cons]; omega
      refine r_slS (by omega) ?_
      walk_at "GO"
      have he : cutS z none (some 1) = "-" := TL.ext_tl (by rw [hc1, hz, minus]; rfl)
      refine r_npos he ?_
      walk_at "GO"
      refine r_slS (by omega) ?_
      walk_at "GO"
      have hc2 : TL.tl (cutS z (some 1) none) = TL.numL n := by
        rw [cutS_tl]
        have e1 : HT.sIx z.length 0 (some 1) = 1 := by
          rw [show (some 1 : Option Int) = some ((1 : Nat) : Int) from rfl, HT.sIx_nat]
          have : 1 ≤ z.length := by rw [hlen, hz, List.length_cons]; omega
          omega
        have e2 : HT.sIx z.length z.length none = z.length := rfl
        rw [e1, e2, hz]
        show (TL.numL n).take _ = _
        exact List.take_of_length_le (by rw [hlen, hz, List.length_cons]; omega)
      refine ⟨cutS z (some 1) none, m, rfl, by rw [hc2]; exact figOk_num hn, hm, ?_⟩
      rw [hc2, TL.numL_val]
      walk_at "GO"
      refine r_neg_ (by omega) ?_
      walk_at "GO"
      exact h


def sp_is_whole : DSp := fun ds cs P _ => ∃ d, ds = [d] ∧ knD d = true ∧ P (.bl (wholeD d)) cs
theorem r_is_whole {i : Int} {cs : Cs} {P : DP} {Z : XZ} (h : P (.bl true) cs) : sp_is_whole [.int i] cs P Z := ⟨.int i, rfl, rfl, h⟩

theorem sc_is_whole : FnScope ["thing"] ["thing"] (defScope s_is_whole) := ⟨rfl, rfl, rfl, by decide +kernel, rfl, by decide +kernel, by decide +kernel⟩
theorem ok_is_whole {P : Program} {w : World} {K : PySem.W.Frag} {mg : Str → Option Value} {base : Heap} (T : Txt K mg) : FnOk P w K mg base (L2.CX P w) 1 (He.ga K "is_whole") T.fd_is_whole ["thing"] (spL K 1 sp_is_whole) := by
  apply ok_def (k := 0) T.F_is_whole sc_is_whole
  case hb =>
    intro cdv A outer s H E hr
    exact (dss_one (ds_ret (d_and (d_callB call_isi adq_isi rfl T.n_isinstance (by decide +kernel) (da_cons (d_var 0) (da_cons (d_ty (n := "int") rfl T.n_int (by decide +kernel)) da_nil))) (d_one (d_not (d_callB call_isi adq_isi rfl T.n_isinstance (by decide +kernel) (da_cons (d_var 0) (da_cons (d_ty (n := "bool") rfl T.n_bool (by decide +kernel)) da_nil))))))))
  case hsp =>
    skip
    rintro ds cs Q Z ⟨d, rfl, hk, h⟩ _
    show (_ : WS) (finD Q Z) [some _] cs
    cases d <;> first
      | (simp [knD] at hk; done)
      | (walk_at "go"; exact h)

local macro_rules | `(tactic| walk_at "cl") => `(tactic| (first | (with_reducible refine r_is_whole ?_)))

def sp_common : DSp := fun ds cs P _ => ∃ a b : Nat, ds = [.int (a : Int), .int (b : Int)] ∧ P (.int (Nat.gcd a b : Int)) cs

theorem sc_common : FnScope ["one", "other"] ["one", "other"] (defScope s_common) := ⟨rfl, rfl, rfl, by decide +kernel, rfl, by decide +kernel, by decide +kernel⟩
theorem ok_common {P : Program} {w : World} {K : PySem.W.Frag} {mg : Str → Option Value} {base : Heap} (T : Txt K mg) : FnOk P w K mg base (L2.CX P w) 1 (He.ga K "common") T.fd_common ["one", "other"] (spL K 2 sp_common) := by
  apply ok_def (k := 0) T.F_common sc_common
  case hb =>
    intro cdv A outer s H E hr
    exact (dss_cons (ds_while passD (dt_ne hr.units (d_var 1) d_int) (dss_one (ds_par (i := 0) (j := 1) rfl sc_common.nd rfl rfl (by decide) rfl rfl (da_cons (d_var 1) (da_cons (d_mod (d_var 0) (d_var 1)) da_nil)))))
      (dss_one (ds_ret (d_var 0))))
  case hsp =>
    skip
    rintro ds cs Q Z ⟨a, b, rfl, h⟩ _
    show (_ : WS) (finD Q Z) [some _, some _] cs
    walk_at "go"
    refine r_while (fun m ρ cs' => ∃ a' b' : Nat, ρ = [some (.int (a' : Int)), some (.int (b' : Int))] ∧ m = b' ∧ cs' = cs ∧ Nat.gcd a' b' = Nat.gcd a b) ⟨b, a, b, rfl, rfl, rfl, rfl⟩ ?_
    rintro m ρ cs' N ⟨a', b', rfl, hm, rfl, hg⟩ hN
    walk_at "go"
    refine ⟨fun hk => ?_, fun hk => ?_⟩
    · have hb : (b' : Int) ≠ 0 := ndecT hk
      have hb0 : (0 : Int) < b' := by omega
      walk_at "go"
      refine hN (a' % b') _ _ (by rw [hm]; exact Nat.mod_lt _ (by omega)) ⟨b', a' % b', rfl, rfl, rfl, ?_⟩
      rw [← hg, Nat.gcd_comm b', ← Nat.gcd_rec, Nat.gcd_comm]
    · have hb : (b' : Int) = 0 := ndecF hk
      have hb0 : b' = 0 := by omega
      rw [hb0]
      walk_at "go"
      rw [← hg, hb0, Nat.gcd_zero_right] at h
      exact h


def sp_is_part : DSp := fun ds cs P _ => ∃ d, ds = [d] ∧ knD d = true ∧ P (.bl (partD d)) cs

theorem sc_is_part : FnScope ["thing", "above", "below"] ["thing"] (defScope s_is_part) := ⟨rfl, rfl, rfl, by decide +kernel, rfl, by decide +kernel, by decide +kernel⟩
theorem ok_is_part {P : Program} {w : World} {K : PySem.W.Frag} {mg : Str → Option Value} {base : Heap} (T : Txt K mg) : FnOk P w K mg base (L2.CX P w) 2 (He.ga K "is_part") T.fd_is_part ["thing"] (spL K 1 sp_is_part) := by
  apply ok_def (k := 1) T.F_is_part sc_is_part
  case hb =>
    intro cdv A outer s H E hr
    exact (dss_cons (ds_if (dt_w (dw_or (dt_not (dt_val (d_callB call_isi adq_isi rfl T.n_isinstance (by decide +kernel) (da_cons (d_var 0) (da_cons (d_ty (n := "tuple") rfl T.n_tuple (by decide +kernel)) da_nil))))) (dw_or1 (dt_ne hr.units (d_callB call_len_seq adq_len rfl T.n_len (by decide +kernel) (da_cons (d_var 0) da_nil)) d_int)))) (dss_one (ds_ret d_bl)) dss_nil)
      (dss_cons (ds_asg (d_var 0) (dg_tup (n := 2) rfl (dgs_cons (dg_name (i := 1) sc_is_part.nd rfl (Or.inl rfl)) (dgs_cons (dg_name (i := 2) sc_is_part.nd rfl (Or.inl rfl)) dgs_nil))))
      (dss_one (ds_ret (d_and (d_callN (ok_is_whole T) (hr.mono (by decide)) rfl T.g_is_whole T.F_is_whole.kp (b_is_whole T) takesD (da_cons (d_var 1) da_nil)) (d_and (d_callN (ok_is_whole T) (hr.mono (by decide)) rfl T.g_is_whole T.F_is_whole.kp (b_is_whole T) takesD (da_cons (d_var 2) da_nil)) (d_and (d_gt (d_var 2) d_int) (d_one (d_eq hr.units (d_callN (ok_common T) (hr.mono (by decide)) rfl T.g_common T.F_common.kp (b_common T) takesD (da_cons (d_callB call_abs adq_abs rfl T.n_abs (by decide +kernel) (da_cons (d_var 1) da_nil)) (da_cons (d_var 2) da_nil))) d_int)))))))))
  case hsp =>
    skip
    rintro ds cs Q Z ⟨d, rfl, hk, h⟩ _
    show (_ : WS) (finD Q Z) [some _, none, none] cs
    cases d <;> try first
      | (simp [knD] at hk; done)
      | (walk_at "go"; exact h)
    rename_i xs hlen
    by_cases hl : xs.length = 2
    case neg =>
      rw [partD_len hl] at h
      walk_at "go"
      refine ⟨fun hk2 => ?_, fun hk2 => absurd (show xs.length = 2 by have := ndecF hk2; omega) hl⟩
      walk_at "go"
      exact h
    case pos =>
      obtain ⟨x, y, rfl⟩ : ∃ x y, xs = [x, y] := by
        cases xs with
        | nil => cases hl
        | cons x xs => cases xs with
          | nil => cases hl
          | cons y xs => cases xs with
            | nil => exact ⟨x, y, rfl⟩
            | cons _ _ => simp at hl
      have kx : knD x = true := knL_mem (show knL [x, y] = true from hk) (by simp)
      have ky : knD y = true := knL_mem (show knL [x, y] = true from hk) (by simp)
      walk_at "go"
      refine ⟨fun hk2 => absurd hk2 (by simp), fun _ => ?_⟩
      walk_at "go"
      refine ⟨x, rfl, kx, ?_⟩
      by_cases hx : ∃ a, x = .int a
      case neg =>
        have e : wholeD x = false := by cases x <;> first | rfl | exact absurd ⟨_, rfl⟩ hx
        have e2 : partD (.tup [x, y]) = false := by unfold partD; split <;> first | rfl | (rename_i q; cases q; exact absurd ⟨_, rfl⟩ hx)
        rw [e]
        rw [e2] at h
        walk_at "go"
        exact h
      case pos =>
        obtain ⟨a, rfl⟩ := hx
        rw [show wholeD (.int a) = true from rfl]
        walk_at "go"
        refine ⟨y, rfl, ky, ?_⟩
        by_cases hy : ∃ b, y = .int b
        case neg =>
          have e : wholeD y = false := by cases y <;> first | rfl | exact absurd ⟨_, rfl⟩ hy
          have e2 : partD (.tup [.int a, y]) = false := by unfold partD; split <;> first | rfl | (rename_i q; cases q; exact absurd ⟨_, rfl⟩ hy)
          rw [e]
          rw [e2] at h
          walk_at "go"
          exact h
        case pos =>
          obtain ⟨b, rfl⟩ := hy
          rw [show wholeD (.int b) = true from rfl]
          walk_at "go"
          refine ⟨fun hb => ?_, fun hb => ?_⟩
          · have hb0 := decT hb
            have hn : b = (b.natAbs : Int) := by omega
            walk_at "go"
            rw [abs_nat]
            refine ⟨a.natAbs, b.natAbs, by rw [← hn], ?_⟩
            walk_at "go"
            have e : partD (.tup [.int a, .int b]) = decide ((Nat.gcd a.natAbs b.natAbs : Int) = 1) := by
              show (decide (0 < b) && decide (Nat.gcd a.natAbs b.natAbs = 1)) = _
              rw [decide_eq_true hb0, Bool.true_and]
              exact decide_eq_decide.mpr ⟨fun z => by omega, fun z => by omega⟩
            rw [e] at h
            exact h
          · have hb0 := decF hb
            have e : partD (.tup [.int a, .int b]) = false := by
              show (decide (0 < b) && decide (Nat.gcd a.natAbs b.natAbs = 1)) = _
              rw [decide_eq_false hb0, Bool.false_and]
            rw [e] at h
            walk_at "go"
            exact h


structure Fig200 (r : Rat) : Prop where
  n : r.num.natAbs < 10 ^ 200
  d : r.den < 10 ^ 200
theorem p200 : (10 : Nat) ^ 200 < 2 ^ 700 := by decide +kernel
theorem Fig200.sz {r : Rat} (h : Fig200 r) : Sz 1900 r := by
  have e : (2 : Nat) ^ 700 ≤ 2 ^ 1900 := Nat.pow_le_pow_right (by decide) (by decide)
  exact ⟨Nat.lt_of_lt_of_le (Nat.lt_trans h.n p200) e, Nat.lt_of_lt_of_le (Nat.lt_trans h.d p200) e⟩
theorem slash : TL.tl (Str.ofString "/") = 47 :: [] := by decide +kernel
theorem numT_free (i : Int) : 47 ∉ TL.tl (numT i) := by
  by_cases h0 : 0 ≤ i
  · obtain ⟨n, rfl⟩ : ∃ n : Nat, i = n := ⟨i.toNat, by omega⟩
    rw [tl_numN]; exact TL.numL_free (.inl (by decide))
  · obtain ⟨n, rfl, hn⟩ : ∃ n : Nat, i = -(n : Int) ∧ n ≠ 0 := ⟨i.natAbs, by omega, by omega⟩
    rw [tl_numNeg hn]
    intro h
    rcases List.mem_cons.mp h with h | h
    · cases h
    · exact TL.numL_free (.inl (by decide)) h
def sp_read_part : DSp := fun ds cs P _ => ∃ r : Rat, ds = [.str (txtR r)] ∧ Fig200 r ∧ P (dR r) cs
theorem r_read_part {r : Rat} {cs : Cs} {P : DP} {Z : XZ} (hr : Fig200 r) (h : P (dR r) cs) : sp_read_part [.str (txtR r)] cs P Z := ⟨r, rfl, hr, h⟩

theorem sc_read_part : FnScope ["text", "above", "mark", "below", "found"] ["text"] (defScope s_read_part) := ⟨rfl, rfl, rfl, by decide +kernel, rfl, by decide +kernel, by decide +kernel⟩
theorem ok_read_part {P : Program} {w : World} {K : PySem.W.Frag} {mg : Str → Option Value} {base : Heap} (T : Txt K mg) : FnOk P w K mg base (L2.CX P w) 3 (He.ga K "read_part") T.fd_read_part ["text"] (spL K 1 sp_read_part) := by
  apply ok_def (k := 2) T.F_read_part sc_read_part
  case hb =>
    intro cdv A outer s H E hr
    exact (dss_cons (ds_asg (d_partn (d_var 0) d_str) (dg_tup (n := 3) rfl (dgs_cons (dg_name (i := 1) sc_read_part.nd rfl (Or.inl rfl)) (dgs_cons (dg_name (i := 2) sc_read_part.nd rfl (Or.inl rfl)) (dgs_cons (dg_name (i := 3) sc_read_part.nd rfl (Or.inl rfl)) dgs_nil)))))
      (dss_cons (ds_set (i := 4) sc_read_part.nd rfl (Or.inl rfl) (d_tup (da_cons (d_callD (dds := [.int 200]) (ok_number_in T) (hr.mono (by decide)) rfl T.g_number_in T.F_number_in.kp (bp_number_in_1 T) (fun _ => (RepL.cons (.int _) RepL.nil)) takesD (da_cons (d_var 1) da_nil)) (da_cons (d_if (dt_ne hr.units (d_var 2) d_str) (d_callD (dds := [.int 200]) (ok_figures_in T) (hr.mono (by decide)) rfl T.g_figures_in T.F_figures_in.kp (bp_figures_in_1 T) (fun _ => (RepL.cons (.int _) RepL.nil)) takesD (da_cons (d_var 3) da_nil)) d_int) da_nil))))
      (dss_cons (ds_if (dt_w (dw_or (dt_not (dt_val (d_callN (ok_is_part T) (hr.mono (by decide)) rfl T.g_is_part T.F_is_part.kp (b_is_part T) takesD (da_cons (d_var 4) da_nil)))) (dw_or1 (dt_ne hr.units (d_callN (ok_part_text T) (hr.mono (by decide)) rfl T.g_part_text T.F_part_text.kp (b_part_text T) takesD (da_cons (d_var 4) da_nil)) (d_var 0))))) (dss_one ds_never) dss_nil)
      (dss_one (ds_ret (d_var 4))))))
  case hsp =>
    skip
    rintro ds cs Q Z ⟨r, rfl, hr, h⟩ _
    have hs := hr.sz
    have hd : ((r.den : Int)).natAbs < 10 ^ 200 := by rw [Int.natAbs_natCast]; exact hr.d
    have n1 := numT_len (k := 200) (by decide) hr.n
    have n2 := numT_len (k := 200) (by decide) hd
    have m1 := numOk_num (k := 200) (by decide) hr.n
    have hdf : FigOk (TL.tl (numT (r.den : Int))) 200 := by
      rw [tl_numN]
      exact figOk_num (numL_len10 (by decide) hr.d)
    have hdv : NumText.digitsVal (TL.tl (numT (r.den : Int))) = r.den := by rw [tl_numN, TL.numL_val]
    show (_ : WS) (finD Q Z) [some _, none, none, none, none] cs
    by_cases h1 : (r.den : Int) = 1
    · have et : txtR r = numT r.num := if_pos h1
      have ep : Txt.partition (numT r.num) "/" = (numT r.num, Str.empty, Str.empty) := TL.partition_none slash (numT_free _)
      rw [et]
      walk_at "GO"
      refine r_partn (by decide) (by omega) ?_
      rw [ep]
      dsimp only
      walk_at "GO"
      refine ⟨numT r.num, r.num, 200, rfl, m1, by decide, ?_⟩
      walk_at "GO"
      refine r_npos (show Str.empty = Str.ofString "" by decide +kernel) ?_
      walk_at "GO"
      rw [show D.tup [.int r.num, .int 1] = dR r by rw [← h1]; rfl]
      refine ⟨dR r, rfl, rfl, ?_⟩
      rw [partD_dR]
      walk_at "GO"
      rw [et]
      walk_at "GO"
      refine r_npos rfl ?_
      walk_at "GO"
      exact h
    · have et : txtR r = numT r.num ++ "/" ++ numT (r.den : Int) := if_neg h1
      have ep : Txt.partition (numT r.num ++ "/" ++ numT (r.den : Int)) "/" = (numT r.num, Str.ofString "/", numT (r.den : Int)) := TL.partition_app slash (numT_free _)
      have el : (numT r.num ++ "/" ++ numT (r.den : Int)).length ≤ 100000 := by
        rw [TL.len_tl, TL.tl_append, List.length_append, TL.tl_append, List.length_append]
        show (TL.tl (numT r.num)).length + 1 + (TL.tl (numT (r.den : Int))).length ≤ _
        rw [← TL.len_tl, ← TL.len_tl]; omega
      rw [et]
      walk_at "GO"
      refine r_partn (by decide) el ?_
      rw [ep]
      dsimp only
      walk_at "GO"
      refine ⟨numT r.num, r.num, 200, rfl, m1, by decide, ?_⟩
      walk_at "GO"
      refine r_nneg (show ¬ Str.ofString "/" = Str.ofString "" by decide +kernel) ?_
      walk_at "GO"
      refine ⟨numT (r.den : Int), 200, rfl, hdf, by decide, ?_⟩
      rw [hdv]
      walk_at "GO"
      rw [show D.tup [.int r.num, .int (r.den : Int)] = dR r from rfl]
      refine ⟨dR r, rfl, rfl, ?_⟩
      rw [partD_dR]
      walk_at "GO"
      rw [et]
      walk_at "GO"
      refine r_npos rfl ?_
      walk_at "GO"
      exact h


def sp_law_text : DSp := fun ds cs P _ => ∃ r : Rat, ds = [dR r] ∧ Sz 1900 r ∧ P (.str (txtR r)) cs
theorem r_law_text {r : Rat} {cs : Cs} {P : DP} {Z : XZ} (hs : Sz 1900 r) (h : P (.str (txtR r)) cs) : sp_law_text [dR r] cs P Z := ⟨r, rfl, hs, h⟩

theorem sc_law_text : FnScope ["_law_part_now"] ["_law_part_now"] (defScope s_law_text) := ⟨rfl, rfl, rfl, by decide +kernel, rfl, by decide +kernel, by decide +kernel⟩
theorem ok_law_text {P : Program} {w : World} {K : PySem.W.Frag} {mg : Str → Option Value} {base : Heap} (T : Txt K mg) : FnOk P w K mg base (L2.CX P w) 1 (He.ga K "_law_text") T.fd_law_text ["_law_part_now"] (spL K 1 sp_law_text) := by
  apply ok_def (k := 0) T.F_law_text sc_law_text
  case hb =>
    intro cdv A outer s H E hr
    exact (dss_one (ds_ret (d_if (dt_eq hr.units (d_sub_ix (d_var 0) d_int) d_int) (d_callTy call_str_int adq_strI rfl T.n_str (by decide +kernel) (da_cons (d_sub_ix (d_var 0) d_int) da_nil)) (d_catS (d_catS (d_callTy call_str_int adq_strI rfl T.n_str (by decide +kernel) (da_cons (d_sub_ix (d_var 0) d_int) da_nil)) d_str) (d_callTy call_str_int adq_strI rfl T.n_str (by decide +kernel) (da_cons (d_sub_ix (d_var 0) d_int) da_nil))))))
  case hsp =>
    skip
    rintro ds cs Q Z ⟨r, rfl, hs, h⟩ _
    have hd : ((r.den : Int)).natAbs < 2 ^ 1900 := by rw [Int.natAbs_natCast]; exact hs.2
    have l1 := log_of hs.1 (Nat.le_refl _)
    have l2 := log_of hd (Nat.le_refl _)
    have n1 := numT_sz hs.1
    have n2 := numT_sz hd
    unfold txtR at h
    show (_ : WS) (finD Q Z) [some _] cs
    walk_at "GO"
    by_cases hd : (r.den : Int) = 1
    · refine r_pos hd ?_
      rw [if_pos hd] at h
      walk_at "GO"
      exact ⟨l1, h⟩
    · refine r_neg_ hd ?_
      rw [if_neg hd] at h
      walk_at "GO"
      refine ⟨l1, ?_⟩
      walk_at "GO"
      refine r_catS (z := numT r.num) (t := "/") (by show _ + 1 ≤ _; omega) ?_
      walk_at "GO"
      refine ⟨l2, ?_⟩
      walk_at "GO"
      refine r_catS (z := numT r.num ++ "/") (t := numT (r.den : Int)) (by rw [TL.len_tl, TL.tl_append, List.length_append, ← TL.len_tl, ← TL.len_tl]; show _ + 1 + _ ≤ _; omega) ?_
      exact h

local macro_rules | `(tactic| walk_at "cl") => `(tactic| (first | ((with_reducible apply r_law_text); (walk_at "sz"))))

theorem fig_divInt {a b : Int} (h0 : b ≠ 0) (ha : a.natAbs < 10 ^ 200) (hb : b.natAbs < 10 ^ 200) : Fig200 (Rat.divInt a b) := by
  constructor
  · rw [Rat.num_divInt]
    refine Nat.lt_of_le_of_lt ?_ ha
    refine Nat.le_trans (Int.natAbs_ediv_le_natAbs _ _) ?_
    rw [Int.natAbs_mul]
    have : b.sign.natAbs ≤ 1 := by
      rcases Int.lt_trichotomy b 0 with h | h | h
      · rw [Int.sign_eq_neg_one_of_neg h]; decide
      · exact absurd h h0
      · rw [Int.sign_eq_one_of_pos h]; decide
    exact Nat.le_trans (Nat.mul_le_mul_right _ this) (by omega)
  · rw [Rat.den_divInt, if_neg h0]
    exact Nat.lt_of_le_of_lt (Nat.div_le_self _ _) hb
theorem p201 : (2 : Nat) ^ 201 < 10 ^ 200 := by decide +kernel
theorem p66 : (1000 : Int) ^ 66 = 10 ^ 198 := by decide +kernel
theorem p198 : (10 : Nat) ^ 198 + 1 < 10 ^ 200 := by decide +kernel
theorem fig_sz {r : Rat} (h : Sz 201 r) : Fig200 r := ⟨Nat.lt_trans h.1 p201, Nat.lt_trans h.2 p201⟩
theorem far_ok {f : Int} (h0 : 0 ≤ f) (h1 : f < 1000 ^ 66) : (f + 1).natAbs < 10 ^ 200 := by
  obtain ⟨n, rfl⟩ : ∃ n : Nat, f = n := ⟨f.toNat, by omega⟩
  rw [p66] at h1
  have h2 : n < 10 ^ 198 := by
    have e : ((10 : Int) ^ 198) = ((10 ^ 198 : Nat) : Int) := (Int.natCast_pow 10 198).symm
    rw [e] at h1
    exact Int.ofNat_lt.mp h1
  have e : ((n : Int) + 1).natAbs = n + 1 := by omega
  rw [e]
  exact Nat.lt_of_le_of_lt (Nat.succ_le_of_lt h2) (Nat.lt_of_succ_lt p198)
theorem far_sg {f s : Int} (h0 : 0 ≤ f) (h1 : f < 1000 ^ 66) (s0 : 0 ≤ s) (s1 : s < 2) : ((f + 1) * (1 - 2 * s)).natAbs < 10 ^ 200 := by
  rw [Int.natAbs_mul]
  have e : (1 - 2 * s).natAbs = 1 := by omega
  rw [e, Nat.mul_one]
  exact far_ok h0 h1
theorem p9000 : (10 : Nat) ^ 200 < 2 ^ 9000 := by decide +kernel
def farN : Nat := 10 ^ 200 - 1
theorem far_val : NumText.digitsVal (List.replicate 200 57) = farN := by decide +kernel
theorem far_lt : farN < 10 ^ 200 := by decide +kernel
theorem fig_at {a b : Int} (hb : 0 < b) (hg : Nat.gcd a.natAbs b.natAbs = 1) (h1 : a.natAbs < 10 ^ 200) (h2 : b.natAbs < 10 ^ 200) : ∃ r : Rat, D.tup [.int a, .int b] = dR r ∧ Fig200 r := by
  obtain ⟨r, e⟩ := partD_inv (show partD (.tup [.int a, .int b]) = true by show (decide _ && decide _) = true; rw [decide_eq_true hb, decide_eq_true hg]; rfl)
  have e' := e
  unfold dR at e'
  simp only [D.tup.injEq, List.cons.injEq, D.int.injEq, and_true] at e'
  exact ⟨r, e, ⟨by rw [← e'.1]; exact h1, by have := e'.2; rw [this, Int.natAbs_natCast] at h2; exact h2⟩⟩

theorem sc_law : FnScope ["_law_script", "_law_bag_here", "_law_turn", "_law_one", "_law_text_here", "_law_far_here", "_law_ends_now"] ["_law_script"] (defScope s_law) := ⟨rfl, rfl, rfl, by decide +kernel, rfl, by decide +kernel, by decide +kernel⟩
theorem ok_law {P : Program} {w : World} {K : PySem.W.Frag} {mg : Str → Option Value} {base : Heap} (T : Txt K mg) : FnOk P w K mg base (L2.CX P w) 8 (He.ga K "law") T.fd_law ["_law_script"] (spL K 1 sp_law) := by
  apply ok_def (k := 7) T.F_law sc_law
  case hb =>
    intro cdv A outer s H E hr
    exact (dss_cons (ds_set (i := 1) sc_law.nd rfl (Or.inl rfl) (d_callN (ok_law_bag T) (hr.mono (by decide)) rfl T.g_law_bag T.F_law_bag.kp (b_law_bag T) takesD (da_cons (d_var 0) da_nil)))
      (dss_cons (ds_for passD rfl (di_range1 rfl T.n_range (da_cons d_int da_nil)) (dg_name (i := 2) sc_law.nd rfl (Or.inl rfl)) (dss_cons (ds_set (i := 3) sc_law.nd rfl (Or.inl rfl) (d_callN (ok_law_some_part T) (hr.mono (by decide)) rfl T.g_law_some_part T.F_law_some_part.kp (b_law_some_part T) takesD (da_cons (d_var 1) da_nil)))
      (dss_cons (ds_if (dt_eq hr.units (d_callN (ok_law_get T) (hr.mono (by decide)) rfl T.g_law_get T.F_law_get.kp (b_law_get T) takesD (da_cons (d_var 1) (da_cons d_int da_nil))) d_int) (dss_one (ds_set (i := 3) sc_law.nd rfl (Or.inl rfl) (d_callN (ok_law_part T) (hr.mono (by decide)) rfl T.g_law_part T.F_law_part.kp (b_law_part T) takesD (da_cons (d_mul (d_add (d_callN (ok_law_far T) (hr.mono (by decide)) rfl T.g_law_far T.F_law_far.kp (b_law_far T) takesD (da_cons (d_var 1) (da_cons d_int da_nil))) d_int) (d_sub d_int (d_mul d_int (d_callN (ok_law_get T) (hr.mono (by decide)) rfl T.g_law_get T.F_law_get.kp (b_law_get T) takesD (da_cons (d_var 1) (da_cons d_int da_nil)))))) (da_cons (d_add (d_callN (ok_law_far T) (hr.mono (by decide)) rfl T.g_law_far T.F_law_far.kp (b_law_far T) takesD (da_cons (d_var 1) (da_cons d_int da_nil))) d_int) da_nil))))) dss_nil)
      (dss_cons (ds_set (i := 4) sc_law.nd rfl (Or.inl rfl) (d_callN (ok_part_text T) (hr.mono (by decide)) rfl T.g_part_text T.F_part_text.kp (b_part_text T) takesD (da_cons (d_var 3) da_nil)))
      (dss_one (ds_if (dt_w (dw_or (dt_not (dt_val (d_callN (ok_law_same T 6) (hr.mono (by decide)) rfl T.g_law_same T.F_law_same.kp (b_law_same T) takesD (da_cons (d_var 4) (da_cons (d_callN (ok_law_text T) (hr.mono (by decide)) rfl T.g_law_text T.F_law_text.kp (b_law_text T) takesD (da_cons (d_var 3) da_nil)) da_nil))))) (dw_or1 (dt_not (dt_val (d_callN (ok_law_same T 6) (hr.mono (by decide)) rfl T.g_law_same T.F_law_same.kp (b_law_same T) takesD (da_cons (d_callN (ok_read_part T) (hr.mono (by decide)) rfl T.g_read_part T.F_read_part.kp (b_read_part T) takesD (da_cons (d_var 4) da_nil)) (da_cons (d_var 3) da_nil)))))))) (dss_one (ds_ret d_bl)) dss_nil))))))
      (dss_cons (ds_set (i := 5) sc_law.nd rfl (Or.inl rfl) (d_callTy call_int_str adq_intS rfl T.n_int (by decide +kernel) (da_cons (d_mulS d_str d_int) da_nil)))
      (dss_cons (ds_set (i := 6) sc_law.nd rfl (Or.inl rfl) (d_lst (da_cons (d_tup (da_cons (d_var 5) (da_cons d_int da_nil))) (da_cons (d_tup (da_cons d_int (da_cons (d_var 5) da_nil))) (da_cons (d_tup (da_cons d_int (da_cons d_int da_nil))) (da_cons (d_tup (da_cons (d_neg d_int) (da_cons d_int da_nil))) da_nil))))))
      (dss_one (ds_ret (d_callB (cr_all rfl) adq_all rfl T.n_all (by decide +kernel) (da_cons (d_lc rfl sc_law.nd (di_list (d_var 6)) (blkOk_by (own := [("_law_one", 3)]) (N := ["_law_script", "_law_bag_here", "_law_turn", "_law_one", "_law_text_here", "_law_far_here", "_law_ends_now"]) (sc := defScope s_law) (by decide +kernel)) (gok_name (by decide)) (fun _ _ _ _ _ => (pg_name (i := 3) sc_law.nd rfl (Or.inl rfl))) (fun _ _ _ _ _ => dts_nil) (fun _ _ _ _ _ => (d_callN (ok_law_same T 6) (hr.mono (by decide)) rfl T.g_law_same T.F_law_same.kp (b_law_same T) takes0 (da_cons (d_callN (ok_read_part T) (hr.mono (by decide)) rfl T.g_read_part T.F_read_part.kp (b_read_part T) takes0 (da_cons (d_callN (ok_law_text T) (hr.mono (by decide)) rfl T.g_law_text T.F_law_text.kp (b_law_text T) takes0 (da_cons (d_var 3) da_nil)) da_nil)) (da_cons (d_var 3) da_nil))))) da_nil))))))))
  case hsp =>
    skip
    rintro ds cs Q Z ⟨ns, rfl, hl, hcs, h⟩ _
    show (_ : WS) (finD Q Z) [some _, none, none, none, none, none, none] cs
    walk_at "GO"
    refine ⟨ns, rfl, fun p b hp hb => ?_⟩
    have hbag : BagIn p ((p, b) :: cs) := ⟨b, by simp [look], hb⟩
    walk_at "GO"
    refine ⟨⟨by decide, by decide⟩, ?_⟩
    refine r_loop0 (fun i ρ cs' => ∃ (c2 c3 c4 c5 c6 : Option D), ρ = [some (.lst (ns.map D.int)), some (.opq (.ref p)), c2, c3, c4, c5, c6] ∧ BagIn p cs') ⟨_, _, _, _, _, rfl, hbag⟩ ?_ ?_
    · rintro i d ρ ca N hd ⟨c2, c3, c4, c5, c6, rfl, hb1⟩ hN
      walk_at "GO"
      intro x cb hx st1
      walk_at "G1"
      refine r_key (fun ρ cs' => ∃ (c4 c5 c6 : Option D) (r : Rat), ρ = [some (.lst (ns.map D.int)), some (.opq (.ref p)), some (d), some (dR r), c4, c5, c6] ∧ Fig200 r ∧ BagIn p cs') ?_ (fun nx key => ?_)
      case refine_2 =>
        walk_at "GO"
        intro g cc g0 g1 st2
        walk_at "GO"
        refine ⟨fun hk => ?_, fun hk => ?_⟩
        · walk_at "GO"
          refine ⟨p, 66, rfl, by decide, st2.bag, fun f1 cd f10 f11 st3 => ?_⟩
          walk_at "GO"
          intro s ce s0 s1 st4
          walk_at "GO"
          refine ⟨p, 66, rfl, by decide, st4.bag, fun f2 cf f20 f21 st5 => ?_⟩
          walk_at "GO"
          refine r_law_part (by omega) (Nat.lt_trans (far_ok f20 f21) p9000) ?_
          exact key _ _ ⟨_, _, _, _, rfl, ⟨fig_divInt (by omega) (far_sg f10 f11 s0 s1) (far_ok f20 f21), st5.bag⟩⟩
        · walk_at "GO"
          exact key _ _ ⟨_, _, _, _, rfl, ⟨fig_sz hx, st2.bag⟩⟩
      rintro ρ ce ⟨c4, c5, c6, r, rfl, ⟨hr, hb2⟩⟩
      have hs := hr.sz
      have hpt : plD 5 (.str (txtR r)) = true := rfl
      walk_at "GO"
      refine r_read_part hr ?_
      walk_at "GO"
      exact hN _ _ ⟨_, _, _, _, _, rfl, hb2⟩
    · rintro ρ ca ⟨c2, c3, c4, c5, c6, rfl, hb1⟩
      walk_at "GO"
      refine ⟨57, 200, congrArg D.str (show Str.ofString "9" = ⟨#[57]⟩ by decide +kernel), rfl, by decide, by decide, ?_⟩
      walk_at "GO"
      have hdig : NumText.AllDigits (List.replicate 200 57) := fun c hc => by rw [List.eq_of_mem_replicate hc]; decide
      refine r_intS (z := ⟨(List.replicate 200 57).toArray⟩) (intText_digits (x := ⟨(List.replicate 200 57).toArray⟩) hdig (by decide +kernel) (by decide +kernel)) (by decide +kernel) ?_
      rw [show NumText.digitsVal (⟨(List.replicate 200 57).toArray⟩ : Str).cps.toList = farN from far_val]
      obtain ⟨r1, e1, q1⟩ := fig_at (a := farN) (b := 1) (by decide) (by simp) (by rw [Int.natAbs_natCast]; exact far_lt) (by decide +kernel)
      obtain ⟨r2, e2, q2⟩ := fig_at (a := 1) (b := farN) (by decide +kernel) (by simp) (by decide +kernel) (by rw [Int.natAbs_natCast]; exact far_lt)
      obtain ⟨r3, e3, q3⟩ := fig_at (a := 0) (b := 1) (by decide) (by decide) (by decide +kernel) (by decide +kernel)
      obtain ⟨r4, e4, q4⟩ := fig_at (a := -1) (b := 2) (by decide) (by decide) (by decide +kernel) (by decide +kernel)
      walk_at "GO"
      rw [e1, e2, e3, e4]
      refine ⟨by show 4 ≤ 100000; decide, ?_⟩
      refine r_cmE (l := [r1, r2, r3, r4]) (g := dR) rfl (fun _ => .bl true) (fun r N N' hm hN => ?_) ?_
      · have hr : Fig200 r := by
          simp only [List.mem_cons, List.not_mem_nil, or_false] at hm
          rcases hm with rfl | rfl | rfl | rfl <;> assumption
        have hs := hr.sz
        walk_at "GO"
        refine r_read_part hr ?_
        walk_at "GO"
        exact hN
      walk_at "GO"
      refine r_all (ns := [true, true, true, true]) rfl ?_
      exact h _


theorem facts {K : PySem.W.Frag} {h : Heap} {mg : Str → Option Value} (X : K.In h) (G : h.Ns mainGlobals mg) (c : He.SaysD faD fnD K) : Nonempty (Txt K mg) := by
  obtain ⟨fd_law_bag, F_law_bag⟩ := c.def_ 0 (d := dd_law_bag) rfl
  obtain ⟨fd_law_gcd, F_law_gcd⟩ := c.def_ 1 (d := dd_law_gcd) rfl
  obtain ⟨fd_law_part, F_law_part⟩ := c.def_ 2 (d := dd_law_part) rfl
  obtain ⟨fd_law_get, F_law_get⟩ := c.def_ 3 (d := dd_law_get) rfl
  obtain ⟨fd_law_far, F_law_far⟩ := c.def_ 4 (d := dd_law_far) rfl
  obtain ⟨fd_law_number, F_law_number⟩ := c.def_ 5 (d := dd_law_number) rfl
  obtain ⟨fd_law_some_part, F_law_some_part⟩ := c.def_ 6 (d := dd_law_some_part) rfl
  obtain ⟨fd_part_text, F_part_text⟩ := c.def_ 7 (d := dd_part_text) rfl
  obtain ⟨fd_law_same, F_law_same⟩ := c.def_ 8 (d := dd_law_same) rfl
  obtain ⟨fd_figures_in, F_figures_in⟩ := c.def_ 9 (d := dd_figures_in) rfl
  obtain ⟨fd_number_in, F_number_in⟩ := c.def_ 10 (d := dd_number_in) rfl
  obtain ⟨fd_is_whole, F_is_whole⟩ := c.def_ 11 (d := dd_is_whole) rfl
  obtain ⟨fd_common, F_common⟩ := c.def_ 12 (d := dd_common) rfl
  obtain ⟨fd_is_part, F_is_part⟩ := c.def_ 13 (d := dd_is_part) rfl
  obtain ⟨fd_read_part, F_read_part⟩ := c.def_ 14 (d := dd_read_part) rfl
  obtain ⟨fd_law_text, F_law_text⟩ := c.def_ 15 (d := dd_law_text) rfl
  obtain ⟨fd_law, F_law⟩ := c.def_ 16 (d := dd_law) rfl
  exact ⟨{ fd_law_bag := fd_law_bag, F_law_bag := F_law_bag, g_law_bag := He.glo_ok X G (c.fact 0 (f := .glo "_law_bag") rfl), fd_law_gcd := fd_law_gcd, F_law_gcd := F_law_gcd, g_law_gcd := He.glo_ok X G (c.fact 1 (f := .glo "_law_gcd") rfl), fd_law_part := fd_law_part, F_law_part := F_law_part, g_law_part := He.glo_ok X G (c.fact 2 (f := .glo "_law_part") rfl), fd_law_get := fd_law_get, F_law_get := F_law_get, g_law_get := He.glo_ok X G (c.fact 3 (f := .glo "_law_get") rfl), fd_law_far := fd_law_far, F_law_far := F_law_far, g_law_far := He.glo_ok X G (c.fact 4 (f := .glo "_law_far") rfl), fd_law_number := fd_law_number, F_law_number := F_law_number, g_law_number := He.glo_ok X G (c.fact 5 (f := .glo "_law_number") rfl), fd_law_some_part := fd_law_some_part, F_law_some_part := F_law_some_part, g_law_some_part := He.glo_ok X G (c.fact 6 (f := .glo "_law_some_part") rfl), fd_part_text := fd_part_text, F_part_text := F_part_text, g_part_text := He.glo_ok X G (c.fact 7 (f := .glo "part_text") rfl), fd_law_same := fd_law_same, F_law_same := F_law_same, g_law_same := He.glo_ok X G (c.fact 8 (f := .glo "_law_same") rfl), fd_figures_in := fd_figures_in, F_figures_in := F_figures_in, g_figures_in := He.glo_ok X G (c.fact 9 (f := .glo "figures_in") rfl), fd_number_in := fd_number_in, F_number_in := F_number_in, g_number_in := He.glo_ok X G (c.fact 10 (f := .glo "number_in") rfl), fd_is_whole := fd_is_whole, F_is_whole := F_is_whole, g_is_whole := He.glo_ok X G (c.fact 11 (f := .glo "is_whole") rfl), fd_common := fd_common, F_common := F_common, g_common := He.glo_ok X G (c.fact 12 (f := .glo "common") rfl), fd_is_part := fd_is_part, F_is_part := F_is_part, g_is_part := He.glo_ok X G (c.fact 13 (f := .glo "is_part") rfl), fd_read_part := fd_read_part, F_read_part := F_read_part, g_read_part := He.glo_ok X G (c.fact 14 (f := .glo "read_part") rfl), fd_law_text := fd_law_text, F_law_text := F_law_text, g_law_text := He.glo_ok X G (c.fact 15 (f := .glo "_law_text") rfl), fd_law := fd_law, F_law := F_law, g_law := He.glo_ok X G (c.fact 16 (f := .glo "law") rfl), n_abs := He.free_ok X G (c.fact 17 (f := .free "abs") rfl), n_all := He.free_ok X G (c.fact 18 (f := .free "all") rfl), n_bool := He.free_ok X G (c.fact 19 (f := .free "bool") rfl), n_dict := He.free_ok X G (c.fact 20 (f := .free "dict") rfl), n_int := He.free_ok X G (c.fact 21 (f := .free "int") rfl), n_isinstance := He.free_ok X G (c.fact 22 (f := .free "isinstance") rfl), n_len := He.free_ok X G (c.fact 23 (f := .free "len") rfl), n_list := He.free_ok X G (c.fact 24 (f := .free "list") rfl), n_range := He.free_ok X G (c.fact 25 (f := .free "range") rfl), n_str := He.free_ok X G (c.fact 26 (f := .free "str") rfl), n_tuple := He.free_ok X G (c.fact 27 (f := .free "tuple") rfl), n_zip := He.free_ok X G (c.fact 28 (f := .free "zip") rfl) }⟩
end Lw
open PySem PySem.W PySem.Calls PyProof.Rows
set_option maxRecDepth 100000 in
set_option maxHeartbeats 0 in
theorem PySem.Challenge.cw_calmcuts_k04_part_texts_written_and_read_holds : PySem.Challenge.rw_calmcuts_k04_part_texts_written_and_read.Holds := by
  w_on; o_law
  o_head Lw.hk2
  case hw => w_witness2
  case hc =>
    refine L2.walk_ofE (l := PySem.Challenge.rw_calmcuts_k04_part_texts_written_and_read) (n := 63) (k := 8) (x := "_law_script") (CX := L2.CX0) rfl (by decide) (by kernel_rfl) ⟨rfl, by decide, by decide⟩ ?F (fun _ _ _ _ z => z)
    intro w mg fa h Y G hmg0
    obtain ⟨K, KX, c⟩ := Y
    have hmg : mg ("law" : PySem.Str) = some (.ref fa) := by
      have e : (HandSHeadRun.topDef (OpenLaw.row PySem.Challenge.rw_calmcuts_k04_part_texts_written_and_read).prog 22).name = ("law" : PySem.Str) := by kernel_rfl
      rw [← e]
      exact hmg0
    obtain ⟨T⟩ := Lw.facts KX G c
    have ef : fa = He.ga K "law" := DL.ref_inj hmg T.g_law
    subst ef
    have b := L2.FunD.bindsA (ps := ["_law_script"]) T.F_law fun _ _ _ _ _ _ us hl => match us, hl with | [_], _ => rfl
    exact ⟨K, T.fd_law, (fun vs H Q _ => DL.spL K 1 DL.sp_law vs H Q fun _ _ _ => False), KX, fun s v => b s [v] rfl, fun H a ns hl _ hS => DL.law_start hl hS, fun base _ _ => DL.calmF (Lw.ok_law T)⟩
#print axioms PySem.Challenge.cw_calmcuts_k04_part_texts_written_and_read_holds
