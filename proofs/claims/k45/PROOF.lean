import PyProof.Rows.All
import Wide.All
import OpenK.AllK
import Wide.FinOn
import KE.KStateDown
import Lean
import KE.DataEq
import KE.DataFind
import HandS.ForMost
import HandS.Exc
import HandS.ExcOwn
import HandS.CallSlots
import HandS.Defaults
import HandS.Wide
import HandS.IsInst
import HandS.TupAny
import HandS.Zip
import HandS.Style
import HandS.MakeKwOnly
import HandS.SortInts
import HandS.More
import HandS.WordsExc
import HandS.Lambda
import HandS.TryMany
import HandS.ExcInit
import HandS.ExcField
import HandS.HeadHook4
import HandS.HeadWalk
import HandS.Head0
import HandS.Head1
import HandS.Head2
import HandS.HeadEnd
import HandS.HeadHook1
import HandS.HeadHook2
import HandS.Dict
import HandS.DictComp
import HandS.Iter
import HandS.RevRange
import HandS.Conv
import HandS.TupMul
import HandS.Sort
import HandS.Keys
import KE.KDictCopyH
import KE.KDictSum
import HandS.TupSets
import KE.KDictWalk
import HandS.Flow
import KE.DataMinMax
import KE.SortData
import HandS.EndTab
import HandS.ClsMeth
import HandS.Text
import HandS.FStr
import HandS.Codes
import HandS.Strs
import KE.KDictZip
import KE.KItemsList
import HandS.ListItems
import HandS.DictEq
import KE.KExcInit
import PyProof.ListStr
import OpenK.KOps
import PySem.Challenge.RW_calmcuts_k45_houses_begun
import Open.Tops
set_option Elab.async true
set_option linter.all false
set_option maxRecDepth 100000
set_option maxHeartbeats 4000000
def PySem.W.Fast.tw6917022424412448608 : Unit := ()
def PySem.W.Fast.tw1678836009025700002 : Unit := ()
def PySem.W.Fast.tw7406965109326229283 : Unit := ()
def PySem.W.Fast.tw4866163156001608515 : Unit := ()
def PySem.W.Fast.tw13341317956423193124 : Unit := ()
def PySem.W.Fast.tw17923372372636192229 : Unit := ()
def PySem.W.Fast.tw6409241465716465768 : Unit := ()
def PySem.W.Fast.tw1268656867712100968 : Unit := ()
def PySem.W.Fast.tw8276737107875976969 : Unit := ()
def PySem.W.Fast.tw7731482150443830250 : Unit := ()
def PySem.W.Fast.tw14840449140498424235 : Unit := ()
def PySem.W.Fast.tw18265965181029853196 : Unit := ()
def PySem.W.Fast.tw10850991371919647949 : Unit := ()
def PySem.W.Fast.tw2266381340166826126 : Unit := ()
def PySem.W.Fast.tw1678762667468554607 : Unit := ()
def PySem.W.Fast.tw4647184162866479823 : Unit := ()
def PySem.W.Fast.tw14987073080090621679 : Unit := ()
def PySem.W.Fast.tw14981617191223779057 : Unit := ()
def PySem.W.Fast.tw10633278676717913202 : Unit := ()
def PySem.W.Fast.tw4982099842712991122 : Unit := ()
def PySem.W.Fast.tw6436288168427220563 : Unit := ()
def PySem.W.Fast.tw4729049683304301620 : Unit := ()
def PySem.W.Fast.tw1900828328072020628 : Unit := ()
def PySem.W.Fast.tw16841786790625207252 : Unit := ()
def PySem.W.Fast.tw16565726456187120885 : Unit := ()
def PySem.W.Fast.tw8590154062270116149 : Unit := ()
def PySem.W.Fast.tw15590799489557148085 : Unit := ()
def PySem.W.Fast.tw15019946804403557845 : Unit := ()
def PySem.W.Fast.tw5115914241379154837 : Unit := ()
def PySem.W.Fast.tw3574650127074714262 : Unit := ()
def PySem.W.Fast.tw2501600496328392759 : Unit := ()
def PySem.W.Fast.tw10297673037869488409 : Unit := ()
def PySem.W.Fast.tw1917593366200986041 : Unit := ()
def PySem.W.Fast.tw14199443383195253530 : Unit := ()
def PySem.W.Fast.tw10987806835599430426 : Unit := ()
def PySem.W.Fast.tw17044011524331941243 : Unit := ()
def PySem.W.Fast.tw8546392519820711419 : Unit := ()
def PySem.W.Fast.tw17128396530496843998 : Unit := ()
def PySem.W.Fast.tw2217500281098149438 : Unit := ()
set_option maxHeartbeats 0 in
open_shared Sh for (PySem.W.OpenLaw.prog PySem.Challenge.rw_calmcuts_k45_houses_begun) leaving 1
set_option maxRecDepth 100000 in
set_option maxHeartbeats 0 in
theorem Lw.pre (h : (PySem.W.OpenLaw.row PySem.Challenge.rw_calmcuts_k45_houses_begun).wellSaid = true → (PySem.W.OpenLaw.row PySem.Challenge.rw_calmcuts_k45_houses_begun).Holds) : PySem.Challenge.rw_calmcuts_k45_houses_begun.Holds := by
  w_on
  o_law
  exact h (by assumption) in
#guard_msgs (pass all) in open Nat
namespace DL
open PySem PySem.Spec PyProof.Rows L2 LamX ClX
/-- the built-in base of own exceptions -/
inductive XB | v | l | i
  deriving DecidableEq
def XB.nm : XB → String | .v => "ValueError" | .l => "LookupError" | .i => "IndexError"
def XB.new : XB → String | .v => "ValueError.__new__" | .l => "LookupError.__new__" | .i => "IndexError.__new__"
def XB.ini : XB → String | .v => "ValueError.__init__" | .l => "LookupError.__init__" | .i => "IndexError.__init__"
def XB.tail : XB → List Value
  | .v => [.type "ValueError", .type "Exception", .type "BaseException", .type "object"]
  | .l => [.type "LookupError", .type "Exception", .type "BaseException", .type "object"]
  | .i => [.type "IndexError", .type "LookupError", .type "Exception", .type "BaseException", .type "object"]
def refsX (b : XB) : List Value → Bool
  | .ref _ :: r => refsX b r
  | l => l == b.tail
def oexB (K : PySem.W.Frag) (b : XB) (C : Addr) : Bool := (match K.lookup C with
  | some ⟨.type c, _, .cls cd, sl⟩ => decide (c = "type") && (cd.hasDict && (!cd.hasDel && (match cd.mro, sl.toList with
    | .ref C' :: bm, [_, _, _, _, some (.builtin n), _] => decide (C' = C) && (decide (n = b.new) && refsX b bm)
    | _, _ => false)))
  | _ => false) && (decide (PySem.W.findIn K (.ref C) "__setattr__" = some (some (.builtin "object.__setattr__"))) && (decide (PySem.W.subIn K (.ref C) (.type "BaseException") = some true) && (decide (PySem.W.typeIn K (.ref C) = some (.type "type")) && PySem.W.keepIn K (.ref C))))
def noAt (K : PySem.W.Frag) (C : Addr) (f : Str) : Bool := decide (PySem.W.findIn K (.ref C) f = some none)
def xcB (K : PySem.W.Frag) (b : XB) (C : Addr) : Bool := oexB K b C && (xfB K C && (noAt K C "called" && (noAt K C "at" && (noAt K C "name" && noAt K C "what"))))
abbrev iniA (K : PySem.W.Frag) (n : Str) : Addr := He.ma K (He.ga K n) "__init__"
def cfB (K : PySem.W.Frag) (C : Addr) (m : Str) (u : Value) : Bool := match PySem.W.findCls K (.ref C) (.type "type") m with
  | some (.val v) => decide (v = u)
  | _ => false
def xclassB (K : PySem.W.Frag) (b : XB) (n : Str) : Bool := xcB K b (He.ga K n) && (decide (PySem.W.findIn K (.ref (He.ga K n)) "__init__" = some (some (.ref (iniA K n)))) && (decide (PySem.W.typeIn K (.ref (iniA K n)) = some (.type "function")) &&
  (PySem.W.readsIn K (He.ga K n) (.type "type") && (decide (PySem.W.specialIn K (.ref (He.ga K n)) "__getattribute__" = some (some (.builtin "type.__getattribute__"))) &&
    cfB K (He.ga K n) "__init__" (.ref (iniA K n))))))
/-- n is caught by the first clause of these that it is under -/
def caughtB (K : PySem.W.Frag) (n : Str) : List Str → Bool
  | [] => false
  | c :: r => (match PySem.W.exmOne K (.ref (He.ga K n)) (.ref (He.ga K c)) with
    | some true => true
    | some false => caughtB K n r
    | none => false)
def pickG : List (Addr × Nat) → List Obj → PySem.W.Frag
  | [], _ => []
  | (a, d) :: r, l => match l.drop d with
    | [] => []
    | o :: l' => (a, o) :: pickG r l'
def gapsOk : Nat → List (Addr × Nat) → Bool
  | _, [] => true
  | n, (a, d) :: r => decide (a = n + d) && gapsOk (a + 1) r
theorem pickG_mem {a : Addr} {o : Obj} : ∀ {l : List (Addr × Nat)} {n : Nat} {xs : List Obj} {L : List Obj}, gapsOk n l = true → L.drop n = xs → (a, o) ∈ pickG l xs → L[a]? = some o
  | [], _, _, _, _, _, h => by cases h
  | (b, d) :: r, n, xs, L, hg, hx, h => by
    obtain ⟨g1, g2⟩ := Bool.and_eq_true_iff.mp hg
    have g1 : b = n + d := of_decide_eq_true g1
    have e : xs.drop d = L.drop b := by rw [← hx, List.drop_drop, g1]
    have h2 : (a, o) ∈ (match xs.drop d with | [] => [] | u :: l' => (b, u) :: pickG r l') := h
    cases q : xs.drop d with
    | nil => rw [q] at h2; cases h2
    | cons u l' =>
      rw [q] at h2
      have q2 : L.drop b = u :: l' := by rw [← e, q]
      rcases List.mem_cons.mp h2 with h3 | h3
      · injection h3 with h4 h5
        rw [h4, h5]
        have := List.getElem?_drop (xs := L) (i := b) (j := 0)
        rw [q2] at this
        simpa using this.symm
      · refine pickG_mem g2 ?_ h3
        rw [← List.drop_drop, q2] <;> rfl in
#guard_msgs (pass all) in open Nat
def live (o : Obj) : Bool := match o.data with
  | .freed => false
  | _ => true
theorem get_at {h : Heap} {a : Addr} {o : Obj} (e : h.objs.toList[a]? = some o) (v : live o = true) : h.get? a = some o := by
  have e2 : h.objs[a]? = some o := by rw [← e, Array.getElem?_toList]
  unfold Heap.get?
  rw [e2]
  obtain ⟨oc, od, dt, sl⟩ := o
  cases dt <;> first | rfl | cases v in
#guard_msgs (pass all) in open Nat
theorem live_emp {o : Obj} (h : He.emptyTab o = true) : live o = true := by
  rw [He.emptyTab_eq h]
  rfl
abbrev frP (P : PySem.W.Frag) : PySem.W.Frag := P.filter fun q => live q.2 && !He.emptyTab q.2
theorem frP_in {l : List (Addr × Nat)} {h : Heap} (ok : gapsOk 0 l = true) : (frP (pickG l h.objs.toList)).In h := fun _ _ e =>
  have m := List.mem_filter.mp (He.lookup_mem e)
  get_at (pickG_mem ok rfl m.1) (Bool.and_eq_true_iff.mp m.2).1
def obsP (fa : List He.Fa) (fn : List He.DefD) (ts : List He.Tab) (tf : List He.Defn) (ex : PySem.W.Frag → Bool) (P : PySem.W.Frag) : He.AlX :=
  (He.obsT fa fn ts (frP P), ex (frP P) && He.tabsB (fun a => P.lookup a) tf (frP P))
theorem frP_none {l : List (Addr × Nat)} {h : Heap} {a : Addr} {o : Obj} (ok : gapsOk 0 l = true) (e : h.get? a = some o) (q : He.emptyTab o = true) : (frP (pickG l h.objs.toList)).lookup a = none := by
  cases u : (frP (pickG l h.objs.toList)).lookup a with
  | none => rfl
  | some v =>
    have m := List.mem_filter.mp (He.lookup_mem u)
    have e2 := get_at (h := h) (pickG_mem ok rfl m.1) (Bool.and_eq_true_iff.mp m.2).1
    rw [e] at e2
    cases e2
    have := (Bool.and_eq_true_iff.mp m.2).2
    rw [q] at this
    cases this in
#guard_msgs (pass all) in open Nat
theorem says_obsP {l : List (Addr × Nat)} {fa : List He.Fa} {fn : List He.DefD} {ts : List He.Tab} {tf : List He.Defn} {ex : PySem.W.Frag → Bool} {w : World} {h : Heap} (ok : gapsOk 0 l = true) (e : obsP fa fn ts tf ex (pickG l h.objs.toList) = He.valX fn ts w) : He.SaysX fa fn ts tf ex w h (frP (pickG l h.objs.toList)) := by
  have a1 : He.obsT fa fn ts (frP (pickG l h.objs.toList)) = He.valT fn ts w := congrArg Prod.fst e
  have a2 : (ex (frP (pickG l h.objs.toList)) && He.tabsB (fun a => (pickG l h.objs.toList).lookup a) tf (frP (pickG l h.objs.toList))) = true := congrArg Prod.snd e
  obtain ⟨b1, b2⟩ := Bool.and_eq_true_iff.mp a2
  have tab : ∀ p ∈ tf, PySem.W.codeHdIn (frP (pickG l h.objs.toList)) (He.cT (frP (pickG l h.objs.toList)) p).1 (He.cT (frP (pickG l h.objs.toList)) p).2 = true ∧ ∃ o, h.get? (He.cT (frP (pickG l h.objs.toList)) p).2 = some o ∧ He.emptyTab o = true := by
    intro p hp
    obtain ⟨c1, c2⟩ := Bool.and_eq_true_iff.mp (List.all_eq_true.mp b2 p hp)
    refine ⟨c1, ?_⟩
    cases u : (pickG l h.objs.toList).lookup (He.cT (frP (pickG l h.objs.toList)) p).2 with
    | none =>
      have c3 : (match (pickG l h.objs.toList).lookup (He.cT (frP (pickG l h.objs.toList)) p).2 with | some o => He.emptyTab o | none => false) = true := c2
      rw [u] at c3
      cases c3
    | some o =>
      have c3 : (match (pickG l h.objs.toList).lookup (He.cT (frP (pickG l h.objs.toList)) p).2 with | some o => He.emptyTab o | none => false) = true := c2
      rw [u] at c3
      exact ⟨o, get_at (pickG_mem ok rfl (He.lookup_mem u)) (live_emp c3), c3⟩
  refine ⟨a1, b1, fun p hp => (tab p hp).1, fun p hp => ?_, fun p hp => ?_⟩
  · obtain ⟨_, o, q, z⟩ := tab p hp
    exact frP_none ok q z
  · obtain ⟨_, o, q, z⟩ := tab p hp
    rw [q, He.emptyTab_eq z] in
#guard_msgs (pass all) in open Nat
def hookP (l : List (Addr × Nat)) (ok : gapsOk 0 l = true) (fa : List He.Fa) (fn : List He.DefD) (ts : List He.Tab) (tf : List He.Defn) (ex : PySem.W.Frag → Bool) : PySem.W.Hook where
  α := He.AlX
  obs := fun s => obsP fa fn ts tf ex (pickG l s.heap.objs.toList)
  val := fun w => He.valX fn ts w
  says := fun w h => ∃ K : PySem.W.Frag, K.In h ∧ He.SaysX fa fn ts tf ex w h K
  of := fun _ _ e => ⟨_, frP_in ok, says_obsP ok e⟩
  keeps := fun _ _ _ ⟨K, hK, c⟩ k => ⟨K, hK.keeps k, ⟨c.t, c.more, c.hd, c.out, fun p hp => k _ _ (c.empty p hp)⟩⟩
end DL
namespace Lw
open PySem PySem.Spec PyProof.Rows L2
def top (i : Nat) : Stmt := PySem.Challenge.pw_calmcuts_k45_houses_begun.main.body.getD i (.Pass ⟨0, 0, 0, 0⟩)
def cbody (s : Stmt) : List Stmt := match s with
  | .ClassDef _ _ _ b _ _ _ _ _ _ _ => b
  | _ => []
abbrev s_Stand___init__ : Stmt := (cbody (top 57)).getD 0 (.Pass ⟨0, 0, 0, 0⟩)
abbrev s_is_whole : Stmt := top 22
abbrev s_is_size : Stmt := top 66
abbrev s_need_measures : Stmt := top 84
abbrev s_common : Stmt := top 23
abbrev s_is_part : Stmt := top 25
abbrev s_is_bound : Stmt := top 78
abbrev s_need_bound : Stmt := top 85
abbrev s_need_side : Stmt := top 36
abbrev s_Nest___init__ : Stmt := (cbody (top 56)).getD 0 (.Pass ⟨0, 0, 0, 0⟩)
abbrev s_House___init__ : Stmt := (cbody (top 107)).getD 0 (.Pass ⟨0, 0, 0, 0⟩)
abbrev s_law_bag : Stmt := top 109
abbrev s_House_steps : Stmt := (cbody (top 107)).getD 36 (.Pass ⟨0, 0, 0, 0⟩)
abbrev s_Stand_order : Stmt := (cbody (top 57)).getD 11 (.Pass ⟨0, 0, 0, 0⟩)
abbrev s_Stand_within : Stmt := (cbody (top 57)).getD 7 (.Pass ⟨0, 0, 0, 0⟩)
abbrev s_Stand_weight_of : Stmt := (cbody (top 57)).getD 8 (.Pass ⟨0, 0, 0, 0⟩)
abbrev s_box_of : Stmt := top 38
abbrev s_Stand_boxes_in : Stmt := (cbody (top 57)).getD 13 (.Pass ⟨0, 0, 0, 0⟩)
abbrev s_Stand_boxes : Stmt := (cbody (top 57)).getD 12 (.Pass ⟨0, 0, 0, 0⟩)
abbrev s_House_all_boxes : Stmt := (cbody (top 107)).getD 4 (.Pass ⟨0, 0, 0, 0⟩)
abbrev s_House_boxes : Stmt := (cbody (top 107)).getD 30 (.Pass ⟨0, 0, 0, 0⟩)
abbrev s_shape_by : Stmt := top 39
abbrev s_greatest : Stmt := top 30
abbrev s_House_worst : Stmt := (cbody (top 107)).getD 32 (.Pass ⟨0, 0, 0, 0⟩)
abbrev s_lies_in : Stmt := top 41
abbrev s_House_under : Stmt := (cbody (top 107)).getD 31 (.Pass ⟨0, 0, 0, 0⟩)
abbrev s_lines_of : Stmt := top 68
abbrev s_drawn : Stmt := top 69
abbrev s_House_squares : Stmt := (cbody (top 107)).getD 35 (.Pass ⟨0, 0, 0, 0⟩)
abbrev s_House___repr__ : Stmt := (cbody (top 107)).getD 3 (.Pass ⟨0, 0, 0, 0⟩)
abbrev s_law_get : Stmt := top 110
abbrev s_law_pick : Stmt := top 111
abbrev s_law_all_names : Stmt := top 136
abbrev s_law_order : Stmt := top 131
abbrev s_law_inside : Stmt := top 128
abbrev s_law_weigh : Stmt := top 129
abbrev s_law_boxes_in : Stmt := top 132
abbrev s_law_boxes : Stmt := top 133
abbrev s_law_same : Stmt := top 112
abbrev s_House___len__ : Stmt := (cbody (top 107)).getD 1 (.Pass ⟨0, 0, 0, 0⟩)
abbrev s_House_names : Stmt := (cbody (top 107)).getD 21 (.Pass ⟨0, 0, 0, 0⟩)
abbrev s_House_size : Stmt := (cbody (top 107)).getD 19 (.Pass ⟨0, 0, 0, 0⟩)
abbrev s_House_bound : Stmt := (cbody (top 107)).getD 20 (.Pass ⟨0, 0, 0, 0⟩)
abbrev s_Stand_known : Stmt := (cbody (top 57)).getD 2 (.Pass ⟨0, 0, 0, 0⟩)
abbrev s_need_known : Stmt := top 80
abbrev s_House_need_any : Stmt := (cbody (top 107)).getD 22 (.Pass ⟨0, 0, 0, 0⟩)
abbrev s_House_weight : Stmt := (cbody (top 107)).getD 27 (.Pass ⟨0, 0, 0, 0⟩)
abbrev s_Stand_is_nest : Stmt := (cbody (top 57)).getD 3 (.Pass ⟨0, 0, 0, 0⟩)
abbrev s_need_nest : Stmt := top 81
abbrev s_House_side : Stmt := (cbody (top 107)).getD 26 (.Pass ⟨0, 0, 0, 0⟩)
abbrev s_House_children : Stmt := (cbody (top 107)).getD 24 (.Pass ⟨0, 0, 0, 0⟩)
abbrev s_House_rows : Stmt := (cbody (top 107)).getD 25 (.Pass ⟨0, 0, 0, 0⟩)
abbrev s_House_box : Stmt := (cbody (top 107)).getD 29 (.Pass ⟨0, 0, 0, 0⟩)
abbrev s_law_right : Stmt := top 137
abbrev s_law_gcd : Stmt := top 115
abbrev s_law_part : Stmt := top 116
abbrev s_law_bound : Stmt := top 122
abbrev s_law_lean : Stmt := top 121
abbrev s_law_ask : Stmt := top 113
abbrev s_law_why : Stmt := top 114
abbrev s_law_whole : Stmt := top 119
abbrev s_law_size_ok : Stmt := top 135
abbrev s_law_new : Stmt := top 127
abbrev s_House_stand_so : Stmt := (cbody (top 107)).getD 5 (.Pass ⟨0, 0, 0, 0⟩)
abbrev s_House_undo : Stmt := (cbody (top 107)).getD 17 (.Pass ⟨0, 0, 0, 0⟩)
abbrev s_House_redo : Stmt := (cbody (top 107)).getD 18 (.Pass ⟨0, 0, 0, 0⟩)
abbrev s_law_is_part : Stmt := top 120
abbrev s_law_is_bound : Stmt := top 134
abbrev s_law : Stmt := top 138
abbrev si_CutError : Stmt := (cbody (top 2)).getD 0 (.Pass ⟨0, 0, 0, 0⟩)
abbrev si_Missing : Stmt := (cbody (top 3)).getD 0 (.Pass ⟨0, 0, 0, 0⟩)
abbrev si_NothingLeft : Stmt := (cbody (top 4)).getD 0 (.Pass ⟨0, 0, 0, 0⟩)
abbrev si_BadBox : Stmt := (cbody (top 6)).getD 0 (.Pass ⟨0, 0, 0, 0⟩)
abbrev si_BadSide : Stmt := (cbody (top 8)).getD 0 (.Pass ⟨0, 0, 0, 0⟩)
abbrev si_BadSizes : Stmt := (cbody (top 9)).getD 0 (.Pass ⟨0, 0, 0, 0⟩)
abbrev si_BadBound : Stmt := (cbody (top 10)).getD 0 (.Pass ⟨0, 0, 0, 0⟩)
abbrev si_NoName : Stmt := (cbody (top 18)).getD 0 (.Pass ⟨0, 0, 0, 0⟩)
abbrev si_NoNest : Stmt := (cbody (top 19)).getD 0 (.Pass ⟨0, 0, 0, 0⟩)
abbrev si_Bare : Stmt := (cbody (top 20)).getD 0 (.Pass ⟨0, 0, 0, 0⟩)
abbrev exL : List Str := ["NothingLeft", "BadBox", "BadSide", "BadSizes", "BadBound", "NoName", "NoNest", "Bare"]
def dd_Stand___init__ : He.DefD := ⟨("Stand", some "__init__"), "__init__", "Stand.__init__", defArgs s_Stand___init__, defBody s_Stand___init__, defScope s_Stand___init__, [], []⟩
def dd_is_whole : He.DefD := ⟨("is_whole", none), "is_whole", "is_whole", defArgs s_is_whole, defBody s_is_whole, defScope s_is_whole, [], []⟩
def dd_is_size : He.DefD := ⟨("is_size", none), "is_size", "is_size", defArgs s_is_size, defBody s_is_size, defScope s_is_size, [], []⟩
def dd_need_measures : He.DefD := ⟨("need_measures", none), "need_measures", "need_measures", defArgs s_need_measures, defBody s_need_measures, defScope s_need_measures, [], []⟩
def dd_common : He.DefD := ⟨("common", none), "common", "common", defArgs s_common, defBody s_common, defScope s_common, [], []⟩
def dd_is_part : He.DefD := ⟨("is_part", none), "is_part", "is_part", defArgs s_is_part, defBody s_is_part, defScope s_is_part, [], []⟩
def dd_is_bound : He.DefD := ⟨("is_bound", none), "is_bound", "is_bound", defArgs s_is_bound, defBody s_is_bound, defScope s_is_bound, [], []⟩
def dd_need_bound : He.DefD := ⟨("need_bound", none), "need_bound", "need_bound", defArgs s_need_bound, defBody s_need_bound, defScope s_need_bound, [], []⟩
def dd_need_side : He.DefD := ⟨("need_side", none), "need_side", "need_side", defArgs s_need_side, defBody s_need_side, defScope s_need_side, [], []⟩
def dd_Nest___init__ : He.DefD := ⟨("Nest", some "__init__"), "__init__", "Nest.__init__", defArgs s_Nest___init__, defBody s_Nest___init__, defScope s_Nest___init__, [], []⟩
def dd_House___init__ : He.DefD := ⟨("House", some "__init__"), "__init__", "House.__init__", defArgs s_House___init__, defBody s_House___init__, defScope s_House___init__, [], [("bound", .glo "BOUND"), ("side", .str "down")]⟩
def dd_law_bag : He.DefD := ⟨("_law_bag", none), "_law_bag", "_law_bag", defArgs s_law_bag, defBody s_law_bag, defScope s_law_bag, [], []⟩
def dd_House_steps : He.DefD := ⟨("House", some "steps"), "steps", "House.steps", defArgs s_House_steps, defBody s_House_steps, defScope s_House_steps, [], []⟩
def dd_Stand_order : He.DefD := ⟨("Stand", some "order"), "order", "Stand.order", defArgs s_Stand_order, defBody s_Stand_order, defScope s_Stand_order, [], []⟩
def dd_Stand_within : He.DefD := ⟨("Stand", some "within"), "within", "Stand.within", defArgs s_Stand_within, defBody s_Stand_within, defScope s_Stand_within, [], []⟩
def dd_Stand_weight_of : He.DefD := ⟨("Stand", some "weight_of"), "weight_of", "Stand.weight_of", defArgs s_Stand_weight_of, defBody s_Stand_weight_of, defScope s_Stand_weight_of, [], []⟩
def dd_box_of : He.DefD := ⟨("box_of", none), "box_of", "box_of", defArgs s_box_of, defBody s_box_of, defScope s_box_of, [], [("left", .int 0), ("top", .int 0)]⟩
def dd_Stand_boxes_in : He.DefD := ⟨("Stand", some "boxes_in"), "boxes_in", "Stand.boxes_in", defArgs s_Stand_boxes_in, defBody s_Stand_boxes_in, defScope s_Stand_boxes_in, [], []⟩
def dd_Stand_boxes : He.DefD := ⟨("Stand", some "boxes"), "boxes", "Stand.boxes", defArgs s_Stand_boxes, defBody s_Stand_boxes, defScope s_Stand_boxes, [], []⟩
def dd_House_all_boxes : He.DefD := ⟨("House", some "all_boxes"), "all_boxes", "House.all_boxes", defArgs s_House_all_boxes, defBody s_House_all_boxes, defScope s_House_all_boxes, [], []⟩
def dd_House_boxes : He.DefD := ⟨("House", some "boxes"), "boxes", "House.boxes", defArgs s_House_boxes, defBody s_House_boxes, defScope s_House_boxes, [], []⟩
def dd_shape_by : He.DefD := ⟨("shape_by", none), "shape_by", "shape_by", defArgs s_shape_by, defBody s_shape_by, defScope s_shape_by, [], []⟩
def dd_greatest : He.DefD := ⟨("greatest", none), "greatest", "greatest", defArgs s_greatest, defBody s_greatest, defScope s_greatest, [], []⟩
def dd_House_worst : He.DefD := ⟨("House", some "worst"), "worst", "House.worst", defArgs s_House_worst, defBody s_House_worst, defScope s_House_worst, [], []⟩
def dd_lies_in : He.DefD := ⟨("lies_in", none), "lies_in", "lies_in", defArgs s_lies_in, defBody s_lies_in, defScope s_lies_in, [], []⟩
def dd_House_under : He.DefD := ⟨("House", some "under"), "under", "House.under", defArgs s_House_under, defBody s_House_under, defScope s_House_under, [], []⟩
def dd_lines_of : He.DefD := ⟨("lines_of", none), "lines_of", "lines_of", defArgs s_lines_of, defBody s_lines_of, defScope s_lines_of, [], []⟩
def dd_drawn : He.DefD := ⟨("drawn", none), "drawn", "drawn", defArgs s_drawn, defBody s_drawn, defScope s_drawn, [], []⟩
def dd_House_squares : He.DefD := ⟨("House", some "squares"), "squares", "House.squares", defArgs s_House_squares, defBody s_House_squares, defScope s_House_squares, [], []⟩
def dd_House___repr__ : He.DefD := ⟨("House", some "__repr__"), "__repr__", "House.__repr__", defArgs s_House___repr__, defBody s_House___repr__, defScope s_House___repr__, [], []⟩
def dd_law_get : He.DefD := ⟨("_law_get", none), "_law_get", "_law_get", defArgs s_law_get, defBody s_law_get, defScope s_law_get, [], []⟩
def dd_law_pick : He.DefD := ⟨("_law_pick", none), "_law_pick", "_law_pick", defArgs s_law_pick, defBody s_law_pick, defScope s_law_pick, [], []⟩
def dd_law_all_names : He.DefD := ⟨("_law_all_names", none), "_law_all_names", "_law_all_names", defArgs s_law_all_names, defBody s_law_all_names, defScope s_law_all_names, [], []⟩
def dd_law_order : He.DefD := ⟨("_law_order", none), "_law_order", "_law_order", defArgs s_law_order, defBody s_law_order, defScope s_law_order, [], []⟩
def dd_law_inside : He.DefD := ⟨("_law_inside", none), "_law_inside", "_law_inside", defArgs s_law_inside, defBody s_law_inside, defScope s_law_inside, [], []⟩
def dd_law_weigh : He.DefD := ⟨("_law_weigh", none), "_law_weigh", "_law_weigh", defArgs s_law_weigh, defBody s_law_weigh, defScope s_law_weigh, [], []⟩
def dd_law_boxes_in : He.DefD := ⟨("_law_boxes_in", none), "_law_boxes_in", "_law_boxes_in", defArgs s_law_boxes_in, defBody s_law_boxes_in, defScope s_law_boxes_in, [], []⟩
def dd_law_boxes : He.DefD := ⟨("_law_boxes", none), "_law_boxes", "_law_boxes", defArgs s_law_boxes, defBody s_law_boxes, defScope s_law_boxes, [], []⟩
def dd_law_same : He.DefD := ⟨("_law_same", none), "_law_same", "_law_same", defArgs s_law_same, defBody s_law_same, defScope s_law_same, [], []⟩
def dd_House___len__ : He.DefD := ⟨("House", some "__len__"), "__len__", "House.__len__", defArgs s_House___len__, defBody s_House___len__, defScope s_House___len__, [], []⟩
def dd_House_names : He.DefD := ⟨("House", some "names"), "names", "House.names", defArgs s_House_names, defBody s_House_names, defScope s_House_names, [], []⟩
def dd_House_size : He.DefD := ⟨("House", some "size"), "size", "House.size", defArgs s_House_size, defBody s_House_size, defScope s_House_size, [], []⟩
def dd_House_bound : He.DefD := ⟨("House", some "bound"), "bound", "House.bound", defArgs s_House_bound, defBody s_House_bound, defScope s_House_bound, [], []⟩
def dd_Stand_known : He.DefD := ⟨("Stand", some "known"), "known", "Stand.known", defArgs s_Stand_known, defBody s_Stand_known, defScope s_Stand_known, [], []⟩
def dd_need_known : He.DefD := ⟨("need_known", none), "need_known", "need_known", defArgs s_need_known, defBody s_need_known, defScope s_need_known, [], []⟩
def dd_House_need_any : He.DefD := ⟨("House", some "need_any"), "need_any", "House.need_any", defArgs s_House_need_any, defBody s_House_need_any, defScope s_House_need_any, [], []⟩
def dd_House_weight : He.DefD := ⟨("House", some "weight"), "weight", "House.weight", defArgs s_House_weight, defBody s_House_weight, defScope s_House_weight, [], []⟩
def dd_Stand_is_nest : He.DefD := ⟨("Stand", some "is_nest"), "is_nest", "Stand.is_nest", defArgs s_Stand_is_nest, defBody s_Stand_is_nest, defScope s_Stand_is_nest, [], []⟩
def dd_need_nest : He.DefD := ⟨("need_nest", none), "need_nest", "need_nest", defArgs s_need_nest, defBody s_need_nest, defScope s_need_nest, [], []⟩
def dd_House_side : He.DefD := ⟨("House", some "side"), "side", "House.side", defArgs s_House_side, defBody s_House_side, defScope s_House_side, [], []⟩
def dd_House_children : He.DefD := ⟨("House", some "children"), "children", "House.children", defArgs s_House_children, defBody s_House_children, defScope s_House_children, [], []⟩
def dd_House_rows : He.DefD := ⟨("House", some "rows"), "rows", "House.rows", defArgs s_House_rows, defBody s_House_rows, defScope s_House_rows, [], []⟩
def dd_House_box : He.DefD := ⟨("House", some "box"), "box", "House.box", defArgs s_House_box, defBody s_House_box, defScope s_House_box, [], []⟩
def dd_law_right : He.DefD := ⟨("_law_right", none), "_law_right", "_law_right", defArgs s_law_right, defBody s_law_right, defScope s_law_right, [], []⟩
def dd_law_gcd : He.DefD := ⟨("_law_gcd", none), "_law_gcd", "_law_gcd", defArgs s_law_gcd, defBody s_law_gcd, defScope s_law_gcd, [], []⟩
def dd_law_part : He.DefD := ⟨("_law_part", none), "_law_part", "_law_part", defArgs s_law_part, defBody s_law_part, defScope s_law_part, [], []⟩
def dd_law_bound : He.DefD := ⟨("_law_bound", none), "_law_bound", "_law_bound", defArgs s_law_bound, defBody s_law_bound, defScope s_law_bound, [], []⟩
def dd_law_lean : He.DefD := ⟨("_law_lean", none), "_law_lean", "_law_lean", defArgs s_law_lean, defBody s_law_lean, defScope s_law_lean, [], []⟩
def dd_law_ask : He.DefD := ⟨("_law_ask", none), "_law_ask", "_law_ask", defArgs s_law_ask, defBody s_law_ask, defScope s_law_ask, [], []⟩
def dd_law_why : He.DefD := ⟨("_law_why", none), "_law_why", "_law_why", defArgs s_law_why, defBody s_law_why, defScope s_law_why, [], []⟩
def dd_law_whole : He.DefD := ⟨("_law_whole", none), "_law_whole", "_law_whole", defArgs s_law_whole, defBody s_law_whole, defScope s_law_whole, [], []⟩
def dd_law_size_ok : He.DefD := ⟨("_law_size_ok", none), "_law_size_ok", "_law_size_ok", defArgs s_law_size_ok, defBody s_law_size_ok, defScope s_law_size_ok, [], []⟩
def dd_law_new : He.DefD := ⟨("_law_new", none), "_law_new", "_law_new", defArgs s_law_new, defBody s_law_new, defScope s_law_new, [], []⟩
def dd_House_stand_so : He.DefD := ⟨("House", some "stand_so"), "stand_so", "House.stand_so", defArgs s_House_stand_so, defBody s_House_stand_so, defScope s_House_stand_so, [], []⟩
def dd_House_undo : He.DefD := ⟨("House", some "undo"), "undo", "House.undo", defArgs s_House_undo, defBody s_House_undo, defScope s_House_undo, [], []⟩
def dd_House_redo : He.DefD := ⟨("House", some "redo"), "redo", "House.redo", defArgs s_House_redo, defBody s_House_redo, defScope s_House_redo, [], []⟩
def dd_law_is_part : He.DefD := ⟨("_law_is_part", none), "_law_is_part", "_law_is_part", defArgs s_law_is_part, defBody s_law_is_part, defScope s_law_is_part, [], []⟩
def dd_law_is_bound : He.DefD := ⟨("_law_is_bound", none), "_law_is_bound", "_law_is_bound", defArgs s_law_is_bound, defBody s_law_is_bound, defScope s_law_is_bound, [], []⟩
def dd_law : He.DefD := ⟨("law", none), "law", "law", defArgs s_law, defBody s_law, defScope s_law, [], []⟩
def dd_i_CutError : He.DefD := ⟨("CutError", some "__init__"), "__init__", "CutError.__init__", defArgs si_CutError, defBody si_CutError, defScope si_CutError, [], []⟩
def dd_i_Missing : He.DefD := ⟨("Missing", some "__init__"), "__init__", "Missing.__init__", defArgs si_Missing, defBody si_Missing, defScope si_Missing, [], []⟩
def dd_i_NothingLeft : He.DefD := ⟨("NothingLeft", some "__init__"), "__init__", "NothingLeft.__init__", defArgs si_NothingLeft, defBody si_NothingLeft, defScope si_NothingLeft, [], []⟩
def dd_i_BadBox : He.DefD := ⟨("BadBox", some "__init__"), "__init__", "BadBox.__init__", defArgs si_BadBox, defBody si_BadBox, defScope si_BadBox, [], []⟩
def dd_i_BadSide : He.DefD := ⟨("BadSide", some "__init__"), "__init__", "BadSide.__init__", defArgs si_BadSide, defBody si_BadSide, defScope si_BadSide, [], []⟩
def dd_i_BadSizes : He.DefD := ⟨("BadSizes", some "__init__"), "__init__", "BadSizes.__init__", defArgs si_BadSizes, defBody si_BadSizes, defScope si_BadSizes, [], []⟩
def dd_i_BadBound : He.DefD := ⟨("BadBound", some "__init__"), "__init__", "BadBound.__init__", defArgs si_BadBound, defBody si_BadBound, defScope si_BadBound, [], []⟩
def dd_i_NoName : He.DefD := ⟨("NoName", some "__init__"), "__init__", "NoName.__init__", defArgs si_NoName, defBody si_NoName, defScope si_NoName, [], []⟩
def dd_i_NoNest : He.DefD := ⟨("NoNest", some "__init__"), "__init__", "NoNest.__init__", defArgs si_NoNest, defBody si_NoNest, defScope si_NoNest, [], []⟩
def dd_i_Bare : He.DefD := ⟨("Bare", some "__init__"), "__init__", "Bare.__init__", defArgs si_Bare, defBody si_Bare, defScope si_Bare, [], []⟩
def fnD : List He.DefD := [dd_Stand___init__, dd_is_whole, dd_is_size, dd_need_measures, dd_common, dd_is_part, dd_is_bound, dd_need_bound, dd_need_side, dd_Nest___init__, dd_House___init__, dd_law_bag, dd_House_steps, dd_Stand_order, dd_Stand_within, dd_Stand_weight_of, dd_box_of, dd_Stand_boxes_in, dd_Stand_boxes, dd_House_all_boxes, dd_House_boxes, dd_shape_by, dd_greatest, dd_House_worst, dd_lies_in, dd_House_under, dd_lines_of, dd_drawn, dd_House_squares, dd_House___repr__, dd_law_get, dd_law_pick, dd_law_all_names, dd_law_order, dd_law_inside, dd_law_weigh, dd_law_boxes_in, dd_law_boxes, dd_law_same, dd_House___len__, dd_House_names, dd_House_size, dd_House_bound, dd_Stand_known, dd_need_known, dd_House_need_any, dd_House_weight, dd_Stand_is_nest, dd_need_nest, dd_House_side, dd_House_children, dd_House_rows, dd_House_box, dd_law_right, dd_law_gcd, dd_law_part, dd_law_bound, dd_law_lean, dd_law_ask, dd_law_why, dd_law_whole, dd_law_size_ok, dd_law_new, dd_House_stand_so, dd_House_undo, dd_House_redo, dd_law_is_part, dd_law_is_bound, dd_law, dd_i_CutError, dd_i_Missing, dd_i_NothingLeft, dd_i_BadBox, dd_i_BadSide, dd_i_BadSizes, dd_i_BadBound, dd_i_NoName, dd_i_NoNest, dd_i_Bare]
def faD : List He.Fa := [.mkr "Stand", .glo "is_whole", .glo "is_size", .glo "need_measures", .glo "common", .glo "is_part", .glo "is_bound", .glo "need_bound", .glo "need_side", .mkr "Nest", .mkr "House", .glo "_law_bag", .meth "House" "steps", .meth "Stand" "order", .meth "Stand" "within", .meth "Stand" "weight_of", .glo "box_of", .meth "Stand" "boxes_in", .meth "Stand" "boxes", .meth "House" "all_boxes", .meth "House" "boxes", .glo "shape_by", .glo "greatest", .meth "House" "worst", .glo "lies_in", .meth "House" "under", .glo "lines_of", .glo "drawn", .meth "House" "squares", .meth "House" "__repr__", .glo "_law_get", .glo "_law_pick", .glo "_law_all_names", .glo "_law_order", .glo "_law_inside", .glo "_law_weigh", .glo "_law_boxes_in", .glo "_law_boxes", .glo "_law_same", .meth "House" "__len__", .meth "House" "names", .meth "House" "size", .meth "House" "bound", .meth "Stand" "known", .glo "need_known", .meth "House" "need_any", .meth "House" "weight", .meth "Stand" "is_nest", .glo "need_nest", .meth "House" "side", .meth "House" "children", .meth "House" "rows", .meth "House" "box", .glo "_law_right", .glo "_law_gcd", .glo "_law_part", .glo "_law_bound", .glo "_law_lean", .glo "_law_ask", .glo "_law_why", .glo "_law_whole", .glo "_law_size_ok", .glo "_law_new", .meth "House" "stand_so", .meth "House" "undo", .meth "House" "redo", .glo "_law_is_part", .glo "_law_is_bound", .glo "law", .free "abs", .free "all", .free "bool", .free "dict", .free "int", .free "isinstance", .free "len", .free "list", .free "range", .free "repr", .free "sorted", .free "str", .free "sum", .free "tuple", .free "zip", .str "ACROSS" "across", .str "DOWN" "down", .int "GREATEST" 1000000000000000000000000000000, .int "MOST_CHILDREN" 12, .int "MOST_DEEP" 4, .int "MOST_NAMES" 40, .int "MOST_SIZE" 1000, .int "MOST_SQUARES" 40, .int "MOST_THING" 10000, .int "MOST_WEIGHT" 400000, .glo "CutError", .glo "Missing", .glo "NothingLeft", .glo "BadBox", .glo "BadSide", .glo "BadSizes", .glo "BadBound", .glo "NoName", .glo "NoNest", .glo "Bare", .glo "BOUND", .free "IndexError", .free "LookupError", .free "ValueError", .cls "Stand", .glo "Stand", .noat "Stand" "measures", .noat "Stand" "most", .noat "Stand" "weighed", .noat "Stand" "held", .cls "Nest", .glo "Nest", .noat "Nest" "facing", .noat "Nest" "inner", .noat "Nest" "lines", .cls "House", .glo "House", .noat "House" "now", .noat "House" "past", .noat "House" "later", .noat "House" "shown_now"]
abbrev R : PySem.W.OpenRow := PySem.W.OpenLaw.row PySem.Challenge.rw_calmcuts_k45_houses_begun
def tfD : List He.Defn := [("law", none)]
def exB (K : PySem.W.Frag) : Bool := (([(.v, "CutError"), (.l, "Missing"), (.i, "NothingLeft"), (.v, "BadBox"), (.v, "BadSide"), (.v, "BadSizes"), (.v, "BadBound"), (.l, "NoName"), (.l, "NoNest"), (.l, "Bare")] : List (DL.XB × Str)).all fun n => DL.xclassB K n.1 n.2) && (((exL.all fun n => DL.caughtB K n ["CutError", "Missing", "NothingLeft"] && (L2.xfB K (He.ga K n) && DL.noAt K (He.ga K n) "called")) && true) && decide ((tfD.map fun p => (He.cT K p).2).Nodup ∧ He.tupB K "BOUND" [.int 2, .int 1] = true))
def asG : List (PySem.Addr × Nat) := ([(2, 2), (3, 0), (34, 30), (35, 0), (37, 1), (38, 0), (54, 15), (55, 0), (57, 1), (58, 0), (74, 15), (75, 0), (77, 1), (78, 0), (113, 34), (114, 0), (116, 1), (117, 0), (151, 33), (152, 0), (154, 1), (155, 0), (170, 14), (171, 0), (173, 1), (174, 0), (189, 14), (190, 0), (192, 1), (193, 0), (341, 147), (342, 0), (344, 1), (345, 0), (360, 14), (361, 0), (363, 1), (364, 0), (379, 14), (380, 0)] : List (PySem.Addr × Nat)) ++ ([(382, 1), (383, 0), (391, 7), (392, 0), (398, 5), (399, 0), (412, 12), (413, 0), (447, 33), (448, 0), (454, 5), (455, 0), (463, 7), (467, 3), (468, 0), (474, 5), (475, 0), (488, 12), (489, 0), (562, 72), (563, 0), (572, 8), (573, 0), (590, 16), (591, 0), (602, 10), (603, 0), (609, 5), (610, 0), (633, 22), (634, 0), (638, 3), (639, 0), (655, 15), (656, 0), (662, 5), (663, 0), (667, 3), (668, 0), (670, 1)] : List (PySem.Addr × Nat)) ++ ([(671, 0), (714, 42), (715, 0), (728, 12), (729, 0), (733, 3), (734, 0), (745, 10), (746, 0), (759, 12), (760, 0), (766, 5), (767, 0), (787, 19), (788, 0), (794, 5), (795, 0), (915, 119), (923, 7), (929, 5), (930, 0), (936, 5), (937, 0), (950, 12), (951, 0), (957, 5), (958, 0), (964, 5), (965, 0), (1046, 80), (1047, 0), (1053, 5), (1054, 0), (1060, 5), (1061, 0), (1067, 5), (1068, 0), (1072, 3), (1073, 0), (1079, 5)] : List (PySem.Addr × Nat)) ++ ([(1080, 0), (1093, 12), (1094, 0), (1098, 3), (1099, 0), (1105, 5), (1106, 0), (1112, 5), (1113, 0), (1126, 12), (1127, 0), (1131, 3), (1132, 0), (1138, 5), (1139, 0), (1143, 3), (1144, 0), (1164, 19), (1165, 0), (1171, 5), (1172, 0), (1181, 8), (1182, 0), (1192, 9), (1193, 0), (1199, 5), (1200, 0), (1206, 5), (1207, 0), (1211, 3), (1212, 0), (1218, 5), (1219, 0), (1225, 5), (1226, 0), (1232, 5), (1233, 0), (1239, 5), (1240, 0), (1260, 19)] : List (PySem.Addr × Nat)) ++ ([(1261, 0), (1267, 5), (1268, 0), (1274, 5), (1275, 0), (1281, 5), (1282, 0), (1314, 31), (1315, 0), (1321, 5), (1322, 0), (1326, 3), (1327, 0), (1338, 10), (1339, 0), (1343, 3), (1344, 0), (1350, 5), (1351, 0), (1357, 5), (1358, 0), (1364, 5), (1365, 0), (1369, 3), (1370, 0), (1376, 5), (1377, 0), (1379, 1), (1381, 1), (1382, 0)] : List (PySem.Addr × Nat))
theorem asG_ok : DL.gapsOk 0 asG = true := by decide +kernel
abbrev hk2 : PySem.W.Hook := DL.hookP asG asG_ok faD fnD [] tfD exB
end Lw
namespace DL
open PySem L2
inductive D where
  | non | bl (b : Bool) | int (i : Int) | str (x : Str)
  | tup (xs : List D) | lst (xs : List D) | dic (kvs : List (Key × D)) | dct (kvs : List (List Key × D))
  | ins (c : Str) (fs : List (Str × D)) | xcp (a dd : Addr) (c : Str) (fs : List (Str × D))
  | opq (v : V)
def Ex (H H' : Hp) : Prop := ∀ a o, H a = some o → H' a = some o
theorem Ex.refl (H : Hp) : Ex H H := fun _ _ h => h
theorem Ex.trans {H H1 H2 : Hp} (a : Ex H H1) (b : Ex H1 H2) : Ex H H2 := fun x o h => b x o (a x o h)
theorem Ex.new {H : Hp} {p : Addr} {o : HO} (h : H p = none) : Ex H (upd H p o) := fun a u e => by
  rw [upd_ne (ne_of_none e h)]; exact e
theorem Ex.back {H H' : Hp} {p : Addr} (e : Ex H H') (h : H' p = none) : H p = none := by
  cases h1 : H p with
  | none => rfl
  | some o => rw [e p o h1] at h; cases h in
#guard_msgs (pass all) in open Nat
theorem ex_rd {H H' : Hp} {a : Addr} {u : HO} (e : Ex H H') (h : Rd H a u) : Rd H' a u := by
  rcases h with h | ⟨o, h⟩
  · exact Or.inl (e a _ h)
  · exact Or.inr ⟨o, e a _ h⟩ in
#guard_msgs (pass all) in open Nat
theorem ex_l {K : PySem.W.Frag} {H H' : Hp} {a : Addr} {xs : List V} (e : Ex H H') (h : SqL K H a xs) : SqL K H' a xs := by
  rcases h with h | h
  · exact Or.inl (ex_rd e h)
  · exact Or.inr h in
#guard_msgs (pass all) in open Nat
theorem ex_t {K : PySem.W.Frag} {H H' : Hp} {a : Addr} {xs : List V} (e : Ex H H') (h : SqT K H a xs) : SqT K H' a xs := by
  rcases h with h | h
  · exact Or.inl (ex_rd e h)
  · exact Or.inr h in
#guard_msgs (pass all) in open Nat
mutual
inductive Rep (K : PySem.W.Frag) (G : Hp) : V → D → Prop
  | non : Rep K G .non .non
  | bl (b : Bool) : Rep K G (.bl b) (.bl b)
  | int (i : Int) : Rep K G (.int i) (.int i)
  | str (x : Str) : Rep K G (.str x) (.str x)
  | opq (v : V) : Rep K G v (.opq v)
  | lst {a : Addr} {xs : List V} {ds : List D} : SqL K G a xs → RepL K G xs ds → Rep K G (.ref a) (.lst ds)
  | tup {a : Addr} {xs : List V} {ds : List D} : SqT K G a xs → RepL K G xs ds → Rep K G (.ref a) (.tup ds)
  | dic {a : Addr} {o : Obj} {xs : List (Key × V)} {ds : List (Key × D)} : G a = some (.frz o (.dK xs)) → RepK K G xs ds → Rep K G (.ref a) (.dic ds)
  | dct {a : Addr} {o : Obj} {xs : List (List Key × V)} {ds : List (List Key × D)} : G a = some (.frz o (.dT xs)) → RepT K G xs ds → Rep K G (.ref a) (.dct ds)
  | ins {a dx : Addr} {c : Str} {xs : List (Str × V)} {fs : List (Str × D)} : G a = some (.ins (He.ga K c) dx xs) → G dx = some (.own a) → RepF K G xs fs → Rep K G (.ref a) (.ins c fs)
  | xcp {a dd : Addr} {c : Str} {xs : List (Str × V)} {fs : List (Str × D)} : G dd = some (.xd xs) → RepX K G xs fs → Rep K G (.ref a) (.xcp a dd c fs)
inductive RepL (K : PySem.W.Frag) (G : Hp) : List V → List D → Prop
  | nil : RepL K G [] []
  | cons {v : V} {vs : List V} {d : D} {ds : List D} : Rep K G v d → RepL K G vs ds → RepL K G (v :: vs) (d :: ds)
inductive RepK (K : PySem.W.Frag) (G : Hp) : List (Key × V) → List (Key × D) → Prop
  | nil : RepK K G [] []
  | cons {k : Key} {v : V} {vs : List (Key × V)} {d : D} {ds : List (Key × D)} : Rep K G v d → RepK K G vs ds → RepK K G ((k, v) :: vs) ((k, d) :: ds)
inductive RepT (K : PySem.W.Frag) (G : Hp) : List (List Key × V) → List (List Key × D) → Prop
  | nil : RepT K G [] []
  | cons {k : List Key} {v : V} {vs : List (List Key × V)} {d : D} {ds : List (List Key × D)} : Rep K G v d → RepT K G vs ds → RepT K G ((k, v) :: vs) ((k, d) :: ds)
/-- fields, one by one -/
inductive RepF (K : PySem.W.Frag) (G : Hp) : List (Str × V) → List (Str × D) → Prop
  | nil : RepF K G [] []
  | cons {k : Str} {v : V} {vs : List (Str × V)} {d : D} {ds : List (Str × D)} : Rep K G v d → RepF K G vs ds → RepF K G ((k, v) :: vs) ((k, d) :: ds)
/-- some fields, by name -/
inductive RepX (K : PySem.W.Frag) (G : Hp) : List (Str × V) → List (Str × D) → Prop
  | nil {vs : List (Str × V)} : RepX K G vs []
  | cons {k : Str} {v : V} {vs : List (Str × V)} {d : D} {ds : List (Str × D)} : vs.lookup k = some v → Rep K G v d → RepX K G vs ds → RepX K G vs ((k, d) :: ds)
end
mutual
theorem Rep.mono {K : PySem.W.Frag} {G G' : Hp} (e : Ex G G') : ∀ {v : V} {d : D}, Rep K G v d → Rep K G' v d
  | _, _, .non => .non
  | _, _, .bl b => .bl b
  | _, _, .int i => .int i
  | _, _, .str x => .str x
  | _, _, .opq v => .opq v
  | _, _, .lst h r => .lst (ex_l e h) (r.mono e)
  | _, _, .tup h r => .tup (ex_t e h) (r.mono e)
  | _, _, .dic h r => .dic (e _ _ h) (r.mono e)
  | _, _, .dct h r => .dct (e _ _ h) (r.mono e)
  | _, _, .ins h q r => .ins (e _ _ h) (e _ _ q) (r.mono e)
  | _, _, .xcp h r => .xcp (e _ _ h) (r.mono e)
theorem RepL.mono {K : PySem.W.Frag} {G G' : Hp} (e : Ex G G') : ∀ {vs : List V} {ds : List D}, RepL K G vs ds → RepL K G' vs ds
  | _, _, .nil => .nil
  | _, _, .cons h r => .cons (h.mono e) (r.mono e)
theorem RepK.mono {K : PySem.W.Frag} {G G' : Hp} (e : Ex G G') : ∀ {vs : List (Key × V)} {ds : List (Key × D)}, RepK K G vs ds → RepK K G' vs ds
  | _, _, .nil => .nil
  | _, _, .cons h r => .cons (h.mono e) (r.mono e)
theorem RepT.mono {K : PySem.W.Frag} {G G' : Hp} (e : Ex G G') : ∀ {vs : List (List Key × V)} {ds : List (List Key × D)}, RepT K G vs ds → RepT K G' vs ds
  | _, _, .nil => .nil
  | _, _, .cons h r => .cons (h.mono e) (r.mono e)
theorem RepF.mono {K : PySem.W.Frag} {G G' : Hp} (e : Ex G G') : ∀ {vs : List (Str × V)} {ds : List (Str × D)}, RepF K G vs ds → RepF K G' vs ds
  | _, _, .nil => .nil
  | _, _, .cons h r => .cons (h.mono e) (r.mono e)
theorem RepX.mono {K : PySem.W.Frag} {G G' : Hp} (e : Ex G G') : ∀ {vs : List (Str × V)} {ds : List (Str × D)}, RepX K G vs ds → RepX K G' vs ds
  | _, _, .nil => .nil
  | _, _, .cons q h r => .cons q (h.mono e) (r.mono e)
end
theorem RepX.get {K : PySem.W.Frag} {G : Hp} : ∀ {vs : List (Str × V)} {ds : List (Str × D)} {f : Str} {y : D}, RepX K G vs ds → ds.lookup f = some y → ∃ v, vs.lookup f = some v ∧ Rep K G v y
  | _, _, f, y, .nil, e => by cases e
  | _, (k, d) :: ds, f, y, .cons q h r, e => by
    by_cases z : f = k
    · subst z
      simp only [List.lookup, beq_self_eq_true, Option.some.injEq] at e
      subst e
      exact ⟨_, q, h⟩
    · have z2 : (f == k) = false := beq_false_of_ne z
      simp only [List.lookup, z2] at e
      exact r.get e in
#guard_msgs (pass all) in open Nat
theorem RepF.get {K : PySem.W.Frag} {G : Hp} : ∀ {vs : List (Str × V)} {ds : List (Str × D)} {f : Str} {y : D}, RepF K G vs ds → ds.lookup f = some y → ∃ v, vs.lookup f = some v ∧ Rep K G v y
  | _, _, f, y, .nil, e => by cases e
  | (_, v) :: vs, (k, d) :: ds, f, y, .cons h r, e => by
    by_cases z : f = k
    · subst z
      simp only [List.lookup, beq_self_eq_true, Option.some.injEq] at e ⊢
      subst e
      exact ⟨_, rfl, h⟩
    · have z2 : (f == k) = false := beq_false_of_ne z
      simp only [List.lookup, z2] at e ⊢
      exact r.get e in
#guard_msgs (pass all) in open Nat
theorem RepF.none {K : PySem.W.Frag} {G : Hp} : ∀ {vs : List (Str × V)} {ds : List (Str × D)} {f : Str}, RepF K G vs ds → ds.lookup f = none → vs.lookup f = none
  | _, _, f, .nil, _ => rfl
  | (_, v) :: vs, (k, d) :: ds, f, .cons h r, e => by
    by_cases z : f = k
    · subst z
      simp [List.lookup] at e
    · have z2 : (f == k) = false := beq_false_of_ne z
      simp only [List.lookup, z2] at e ⊢
      exact r.none e in
#guard_msgs (pass all) in open Nat
theorem RepL.length {K : PySem.W.Frag} {G : Hp} : ∀ {vs : List V} {ds : List D}, RepL K G vs ds → vs.length = ds.length
  | _, _, .nil => rfl
  | _, _, .cons _ r => congrArg Nat.succ r.length
theorem RepL.get {K : PySem.W.Frag} {G : Hp} : ∀ {vs : List V} {ds : List D} {i : Nat} {d : D}, RepL K G vs ds → ds[i]? = some d → ∃ v, vs[i]? = some v ∧ Rep K G v d
  | _, _, _, _, .nil, e => by simp at e
  | _, _, 0, _, .cons h _, e => by simp at e; subst e; exact ⟨_, rfl, h⟩
  | _, _, i + 1, d, .cons _ r, e => by
    obtain ⟨u, h1, h2⟩ := RepL.get (i := i) (d := d) r (by simpa using e)
    exact ⟨u, by simpa using h1, h2⟩ in
#guard_msgs (pass all) in open Nat
theorem RepL.append {K : PySem.W.Frag} {G : Hp} : ∀ {vs ws : List V} {ds es : List D}, RepL K G vs ds → RepL K G ws es → RepL K G (vs ++ ws) (ds ++ es)
  | _, _, _, _, .nil, s => s
  | _, _, _, _, .cons h r, s => .cons h (r.append s)
theorem RepL.take {K : PySem.W.Frag} {G : Hp} : ∀ {vs : List V} {ds : List D} (n : Nat), RepL K G vs ds → RepL K G (vs.take n) (ds.take n)
  | _, _, 0, _ => by simp; exact .nil
  | _, _, _ + 1, .nil => .nil
  | _, _, n + 1, .cons h r => .cons h (r.take n)
theorem RepL.drop {K : PySem.W.Frag} {G : Hp} : ∀ {vs : List V} {ds : List D} (n : Nat), RepL K G vs ds → RepL K G (vs.drop n) (ds.drop n)
  | _, _, 0, r => r
  | _, _, _ + 1, .nil => .nil
  | _, _, n + 1, .cons _ r => r.drop n
theorem RepL.set {K : PySem.W.Frag} {G : Hp} {v : V} {d : D} (h : Rep K G v d) : ∀ {vs : List V} {ds : List D} (n : Nat), RepL K G vs ds → RepL K G (vs.set n v) (ds.set n d)
  | _, _, _, .nil => .nil
  | _, _, 0, .cons _ r => .cons h r
  | _, _, n + 1, .cons q r => .cons q (r.set h n)
theorem RepL.dropLast {K : PySem.W.Frag} {G : Hp} {vs : List V} {ds : List D} (h : RepL K G vs ds) : RepL K G vs.dropLast ds.dropLast := by
  rw [List.dropLast_eq_take, List.dropLast_eq_take, h.length]; exact h.take _ in
#guard_msgs (pass all) in open Nat
theorem RepL.intsL {K : PySem.W.Frag} {G : Hp} : ∀ {vs : List V} (ns : List Int), RepL K G vs (ns.map D.int) → vs = ns.map V.int
  | _, [], .nil => rfl
  | _, n :: ns, .cons h r => by
    cases h
    rw [List.map_cons, RepL.intsL ns r]
theorem RepL.ofInts {K : PySem.W.Frag} {G : Hp} : ∀ (ns : List Int), RepL K G (ns.map V.int) (ns.map D.int)
  | [] => .nil
  | n :: ns => .cons (.int n) (RepL.ofInts ns)
theorem RepL.bls {K : PySem.W.Frag} {G : Hp} : ∀ {vs : List V} (ns : List Bool), RepL K G vs (ns.map D.bl) → vs = ns.map V.bl
  | _, [], .nil => rfl
  | _, n :: ns, .cons h r => by
    cases h
    rw [List.map_cons, RepL.bls ns r]
inductive MO where
  | lst (ds : List D) | dic (kvs : List (Key × D)) | dct (kvs : List (List Key × D))
  | tbl (q : Str) | ins (c : Str) (a dx : Addr) (fs : List (Str × D))
abbrev Cs := List (Addr × MO)
def adr (cs : Cs) : List Addr := cs.map (·.1)
def pur (F : Hp) (cs : Cs) (H : Hp) : Hp := fun b => if (F b).isSome = true ∨ b ∈ adr cs then none else H b
def MoOk (K : PySem.W.Frag) (G : Hp) : MO → HO → Prop
  | .lst ds, .lst vs => RepL K G vs ds
  | .dic ds, .dK vs => RepK K G vs ds
  | .dct ds, .dT vs => RepT K G vs ds
  | .tbl q, .tbl ps => TriplesOk ps.toList ∧ ∀ (pos : Pos) (cv : Value), codeAmong pos ps.toList = some cv → ∃ c, cv = .ref c ∧ G c = some (LamX.CodeO c q)
  | .ins c a dx ds, .ins C dx' xs => C = He.ga K c ∧ dx' = dx ∧ G dx = some (.own a) ∧ RepF K G xs ds
  | _, _ => False
theorem MoOk.mono {K : PySem.W.Frag} {G G' : Hp} (e : Ex G G') : ∀ {m : MO} {o : HO}, MoOk K G m o → MoOk K G' m o := by
  intro m o h
  cases m <;> cases o <;> first | exact h.elim | exact ⟨h.1, h.2.1, e _ _ h.2.2.1, RepF.mono e h.2.2.2⟩ | exact RepL.mono e h | exact RepK.mono e h | exact RepT.mono e h | exact ⟨h.1, fun pos cv hc => by
    obtain ⟨c, e1, e2⟩ := h.2 pos cv hc
    exact ⟨c, e1, e _ _ e2⟩⟩ in
#guard_msgs (pass all) in open Nat
structure Sta (K : PySem.W.Frag) (F G0 : Hp) (cs : Cs) (H : Hp) : Prop where
  fr : Ex F H
  gr : Ex G0 (pur F cs H)
  nd : (adr cs).Nodup
  ap : ∀ a ∈ adr cs, F a = none
  ow : ∀ a m, (a, m) ∈ cs → ∃ o, H a = some o ∧ MoOk K (pur F cs H) m o
  ft : ∀ a xs, F a ≠ some (.tup xs)
section
variable {K : PySem.W.Frag} {F G G0 G1 H H1 H' : Hp} {cs cs1 cs' : Cs} {p : Addr} {o : HO} {m : MO}
theorem Sta.self (s : Sta K F G0 cs H) : Sta K F (pur F cs H) cs H := ⟨s.fr, Ex.refl _, s.nd, s.ap, s.ow, s.ft⟩
theorem Sta.from_ (s : Sta K F G1 cs H) (e : Ex G0 G1) : Sta K F G0 cs H := ⟨s.fr, e.trans s.gr, s.nd, s.ap, s.ow, s.ft⟩
theorem pur_of {b : Addr} {u : HO} (h : pur F cs H b = some u) : H b = some u ∧ F b = none ∧ b ∉ adr cs := by
  unfold pur at h
  split at h
  · cases h
  · rename_i q
    refine ⟨h, ?_, fun z => q (.inr z)⟩
    cases e : F b with
    | none => rfl
    | some x => exact absurd (Or.inl (by rw [e]; rfl)) q in
#guard_msgs (pass all) in open Nat
theorem pur_at {b : Addr} (h1 : F b = none) (h2 : b ∉ adr cs) : pur F cs H b = H b := by
  unfold pur
  rw [if_neg]
  rintro (z | z)
  · rw [h1] at z; cases z
  · exact h2 z in
#guard_msgs (pass all) in open Nat
/-- a new thing that never changes -/
theorem Sta.new (s : Sta K F G0 cs H) (h : H p = none) : Sta K F (pur F cs H) cs (upd H p o) ∧ pur F cs (upd H p o) p = some o := by
  have hF : F p = none := s.fr.back h
  have hc : p ∉ adr cs := fun z => by
    obtain ⟨⟨a, m⟩, hm, e⟩ := List.mem_map.mp z
    obtain ⟨u, hu, _⟩ := s.ow a m hm
    have e' : a = p := e
    rw [e', h] at hu; cases hu
  have g : Ex (pur F cs H) (pur F cs (upd H p o)) := fun b u e => by
    obtain ⟨e1, e2, e3⟩ := pur_of e
    rw [pur_at e2 e3, upd_ne (ne_of_none e1 h)]; exact e1
  refine ⟨⟨s.fr.trans (Ex.new h), g, s.nd, s.ap, fun a m hm => ?_, s.ft⟩, by rw [pur_at hF hc, upd_same]⟩
  obtain ⟨u, hu, q⟩ := s.ow a m hm
  exact ⟨u, by rw [upd_ne (ne_of_none hu h)]; exact hu, q.mono g⟩ in
#guard_msgs (pass all) in open Nat
theorem Sta.notin (s : Sta K F G0 cs H) (h : H p = none) : F p = none ∧ p ∉ adr cs := by
  refine ⟨s.fr.back h, fun z => ?_⟩
  obtain ⟨⟨a, m⟩, hm, e⟩ := List.mem_map.mp z
  obtain ⟨u, hu, _⟩ := s.ow a m hm
  have e' : a = p := e
  rw [e', h] at hu; cases hu in
#guard_msgs (pass all) in open Nat
/-- a new thing that may change -/
theorem Sta.newM (s : Sta K F G0 cs H) (h : H p = none) (q : MoOk K (pur F cs H) m o) : Sta K F (pur F cs H) ((p, m) :: cs) (upd H p o) := by
  obtain ⟨hF, hc⟩ := s.notin h
  have g : Ex (pur F cs H) (pur F ((p, m) :: cs) (upd H p o)) := fun b u e => by
    obtain ⟨e1, e2, e3⟩ := pur_of e
    have hb : b ≠ p := ne_of_none e1 h
    rw [pur_at e2 (by show b ∉ p :: adr cs; simp [hb, e3]), upd_ne hb]; exact e1
  refine ⟨s.fr.trans (Ex.new h), g, ?_, ?_, ?_, s.ft⟩
  · show (p :: adr cs).Nodup
    exact List.nodup_cons.mpr ⟨hc, s.nd⟩
  · intro a ha
    rcases List.mem_cons.mp (show a ∈ p :: adr cs from ha) with e | e
    · rw [e]; exact hF
    · exact s.ap a e
  · intro a m' hm
    rcases List.mem_cons.mp hm with e | e
    · cases e
      exact ⟨o, upd_same, q.mono g⟩
    · obtain ⟨u, hu, r⟩ := s.ow a m' e
      exact ⟨u, by rw [upd_ne (ne_of_none hu h)]; exact hu, r.mono g⟩ in
#guard_msgs (pass all) in open Nat
/-- what may change is from now on data -/
theorem Sta.freeze (s : Sta K F G0 ((p, m) :: cs) H) : Sta K F G0 cs H ∧ Ex (pur F ((p, m) :: cs) H) (pur F cs H) ∧ ∃ o, pur F cs H p = some o ∧ MoOk K (pur F cs H) m o := by
  have g : Ex (pur F ((p, m) :: cs) H) (pur F cs H) := fun b u e => by
    obtain ⟨e1, e2, e3⟩ := pur_of e
    rw [pur_at e2 fun z => e3 (List.mem_cons_of_mem _ z)]; exact e1
  have nd : (p :: adr cs).Nodup := s.nd
  obtain ⟨n1, n2⟩ := List.nodup_cons.mp nd
  have hF : F p = none := s.ap p (List.mem_cons_self ..)
  refine ⟨⟨s.fr, s.gr.trans g, n2, fun a h => s.ap a (List.mem_cons_of_mem _ h), fun a m' h => ?_, s.ft⟩, g, ?_⟩
  · obtain ⟨u, hu, r⟩ := s.ow a m' (List.mem_cons_of_mem _ h)
    exact ⟨u, hu, r.mono g⟩
  · obtain ⟨u, hu, r⟩ := s.ow p m (List.mem_cons_self ..)
    exact ⟨u, by rw [pur_at hF n1]; exact hu, r.mono g⟩ in
#guard_msgs (pass all) in open Nat
/-- the content of p replaced -/
def put (p : Addr) (m : MO) : Cs → Cs
  | [] => []
  | (a, x) :: r => if a = p then (a, m) :: r else (a, x) :: put p m r
def look (p : Addr) : Cs → Option MO
  | [] => none
  | (a, x) :: r => if a = p then some x else look p r
theorem adr_put (p : Addr) (m : MO) : ∀ cs : Cs, adr (put p m cs) = adr cs
  | [] => rfl
  | (a, x) :: r => by
    unfold put
    split
    · rfl
    · show a :: adr (put p m r) = a :: adr r
      rw [adr_put p m r]
theorem look_mem {p : Addr} {m : MO} : ∀ {cs : Cs}, look p cs = some m → (p, m) ∈ cs
  | [], h => by cases h
  | (a, x) :: r, h => by
    unfold look at h
    split at h
    · rename_i e
      cases h; cases e
      exact List.mem_cons_self ..
    · exact List.mem_cons_of_mem _ (look_mem h)
theorem look_put {p : Addr} {m m' : MO} : ∀ {cs : Cs}, look p cs = some m → look p (put p m' cs) = some m'
  | [], h => by cases h
  | (a, x) :: r, h => by
    unfold look at h
    unfold put
    split at h
    · rename_i e
      rw [if_pos e]
      unfold look
      rw [if_pos e]
    · rename_i e
      rw [if_neg e]
      unfold look
      rw [if_neg e]
      exact look_put h
theorem look_put_ne {p q : Addr} {m : MO} (hn : q ≠ p) : ∀ {cs : Cs}, look q (put p m cs) = look q cs
  | [] => rfl
  | (a, x) :: r => by
    unfold put
    split
    · rename_i e
      unfold look
      rw [if_neg (fun z => hn (z.symm.trans e)), if_neg (fun z => hn (z.symm.trans e))]
    · unfold look
      rw [look_put_ne hn]
theorem put_put {p : Addr} {m m' : MO} : ∀ {cs : Cs}, put p m' (put p m cs) = put p m' cs
  | [] => rfl
  | (a, x) :: r => by
    by_cases e : a = p
    · have e1 : put p m ((a, x) :: r) = (a, m) :: r := by simp [put, e]
      have e2 : put p m' ((a, x) :: r) = (a, m') :: r := by simp [put, e]
      rw [e1, e2]; simp [put, e]
    · have e1 : put p m ((a, x) :: r) = (a, x) :: put p m r := by simp [put, e]
      have e2 : put p m' ((a, x) :: r) = (a, x) :: put p m' r := by simp [put, e]
      rw [e1, e2]
      have ih := put_put (p := p) (m := m) (m' := m') (cs := r)
      simp [put, e, ih] in
#guard_msgs (pass all) in open Nat
theorem mem_put {p a : Addr} {m x : MO} : ∀ {cs : Cs}, (adr cs).Nodup → (a, x) ∈ put p m cs → (a = p ∧ x = m) ∨ (a ≠ p ∧ (a, x) ∈ cs)
  | [], _, h => by cases h
  | (b, y) :: r, nd, h => by
    have nd' : (b :: adr r).Nodup := nd
    obtain ⟨n1, n2⟩ := List.nodup_cons.mp nd'
    unfold put at h
    split at h
    · rename_i e
      rcases List.mem_cons.mp h with q | q
      · cases q; exact .inl ⟨e, rfl⟩
      · refine .inr ⟨fun z => n1 ?_, List.mem_cons_of_mem _ q⟩
        rw [e, ← z]; exact List.mem_map.mpr ⟨(a, x), q, rfl⟩
    · rename_i e
      rcases List.mem_cons.mp h with q | q
      · cases q; exact .inr ⟨e, List.mem_cons_self ..⟩
      · rcases mem_put n2 q with z | z
        · exact .inl z
        · exact .inr ⟨z.1, List.mem_cons_of_mem _ z.2⟩ in
#guard_msgs (pass all) in open Nat
theorem Sta.put (s : Sta K F G0 cs H) (hl : look p cs = some m) {m' : MO} {o' : HO} (q : MoOk K (pur F cs H) m' o') : Sta K F (pur F cs H) (put p m' cs) (upd H p o') := by
  have hp : p ∈ adr cs := List.mem_map.mpr ⟨(p, m), look_mem hl, rfl⟩
  have hF := s.ap p hp
  have e : pur F (DL.put p m' cs) (upd H p o') = pur F cs H := by
    funext b
    unfold pur
    rw [adr_put]
    by_cases hb : b = p
    · subst hb
      rw [if_pos (.inr hp), if_pos (.inr hp)]
    · rw [upd_ne hb]
  refine ⟨fun b u h => ?_, by rw [e]; exact Ex.refl _, by rw [adr_put]; exact s.nd, by rw [adr_put]; exact s.ap, fun a x hx => ?_, s.ft⟩
  · rw [upd_ne (fun z => by rw [z, hF] at h; cases h)]; exact s.fr b u h
  · rw [e]
    rcases mem_put s.nd hx with ⟨e1, e2⟩ | ⟨e1, e2⟩
    · subst e1 e2; exact ⟨o', upd_same, q⟩
    · obtain ⟨u, hu, r⟩ := s.ow a x e2
      exact ⟨u, by rw [upd_ne e1]; exact hu, r⟩ in
#guard_msgs (pass all) in open Nat
theorem Sta.look (s : Sta K F G0 cs H) (hl : DL.look p cs = some m) : ∃ o, H p = some o ∧ MoOk K (pur F cs H) m o := s.ow p m (look_mem hl)
end
abbrev Env := List (Option D)
structure Exn where
  cls : Str
  fs : List (Str × D)
abbrev XZ := Exn → Cs → Prop
abbrev DP := D → Cs → Prop
abbrev WE := Env → Cs → DP → XZ → Prop
abbrev WT := Env → Cs → (Bool → Cs → Prop) → XZ → Prop
abbrev WA := Env → Cs → (List D → Cs → Prop) → XZ → Prop
structure Fin where
  nx : Env → Cs → Prop
  rt : D → Cs → Prop
  ex : Exn → Env → Cs → Prop := fun _ _ _ => False
  bk : Env → Cs → Prop := fun _ _ => False
  ct : Env → Cs → Prop := fun _ _ => False
abbrev WS := Fin → Env → Cs → Prop
inductive RepO (K : PySem.W.Frag) (G : Hp) : Option V → Option D → Prop
  | skip {o : Option V} : RepO K G o none
  | held {v : V} {d : D} : Rep K G v d → RepO K G (some v) (some d)
inductive RepE (K : PySem.W.Frag) (G : Hp) : St → Env → Prop
  | nil : RepE K G [] []
  | cons {v : Option V} {d : Option D} {σ : St} {ρ : Env} : RepO K G v d → RepE K G σ ρ → RepE K G (v :: σ) (d :: ρ)
section
variable {K : PySem.W.Frag} {G G' : Hp}
theorem RepO.mono (e : Ex G G') {v : Option V} {d : Option D} : RepO K G v d → RepO K G' v d
  | .skip => .skip
  | .held h => .held (h.mono e)
theorem RepE.mono (e : Ex G G') : ∀ {σ : St} {ρ : Env}, RepE K G σ ρ → RepE K G' σ ρ
  | _, _, .nil => .nil
  | _, _, .cons h r => .cons (h.mono e) (r.mono e)
theorem RepE.get : ∀ {σ : St} {ρ : Env} {i : Nat} {d : D}, RepE K G σ ρ → ρ[i]? = some (some d) → ∃ v, σ[i]? = some (some v) ∧ Rep K G v d
  | _, _, _, _, .nil, e => by simp at e
  | _, _, 0, _, .cons h _, e => by
    simp at e; subst e
    cases h with
    | held h => exact ⟨_, rfl, h⟩
  | _, _, i + 1, d, .cons _ r, e => by
    obtain ⟨u, h1, h2⟩ := RepE.get (i := i) (d := d) r (by simpa using e)
    exact ⟨u, by simpa using h1, h2⟩ in
#guard_msgs (pass all) in open Nat
theorem RepE.set {v : V} {d : D} (h : Rep K G v d) : ∀ {σ : St} {ρ : Env} (i : Nat), RepE K G σ ρ → RepE K G (σ.set i (some v)) (ρ.set i (some d))
  | _, _, _, .nil => .nil
  | _, _, 0, .cons _ r => .cons (.held h) r
  | _, _, i + 1, .cons q r => .cons q (r.set h i)
theorem RepE.start : ∀ {vs : List V} {ds : List D} (n : Nat), RepL K G vs ds → RepE K G (vs.map some ++ List.replicate n none) (ds.map some ++ List.replicate n none)
  | _, _, n, .nil => by
    induction n with
    | zero => exact .nil
    | succ n ih => exact .cons .skip ih
  | _, _, n, .cons h r => .cons (.held h) (RepE.start n r)
end
/-- an exception's dict -/
def XR (K : PySem.W.Frag) (G : Hp) (d : Option Addr) (fs : List (Str × D)) : Prop := ∃ a xs, d = some a ∧ G a = some (.xd xs) ∧ RepX K G xs fs
theorem XR.mono {K : PySem.W.Frag} {G G' : Hp} {d : Option Addr} {fs : List (Str × D)} (h : XR K G d fs) (e : Ex G G') : XR K G' d fs := by
  obtain ⟨a, xs, e1, e2, e3⟩ := h
  exact ⟨a, xs, e1, e _ _ e2, e3.mono e⟩ in
#guard_msgs (pass all) in open Nat
/-- what is due behind: by value, by exception -/
def PostE (K : PySem.W.Frag) (F G : Hp) (P : DP) (Q : VK) : Prop := ∀ H' cs' v d, Sta K F G cs' H' → Rep K (pur F cs' H') v d → P d cs' → Q v H'
def PostX (K : PySem.W.Frag) (F G : Hp) (Z : XZ) (W : Value → Option Addr → Hp → Prop) : Prop := ∀ H' cs' x d, Sta K F G cs' H' → XR K (pur F cs' H') d x.fs → Z x cs' → W (.ref (He.ga K x.cls)) d H'
theorem PostE.le {K : PySem.W.Frag} {F G G' : Hp} {P : DP} {Q : VK} (h : PostE K F G P Q) (e : Ex G G') : PostE K F G' P Q := fun H' cs' v d s r p => h H' cs' v d (s.from_ e) r p
theorem PostX.le {K : PySem.W.Frag} {F G G' : Hp} {Z : XZ} {W : Value → Option Addr → Hp → Prop} (h : PostX K F G Z W) (e : Ex G G') : PostX K F G' Z W := fun H' cs' x d s r p => h H' cs' x d (s.from_ e) r p
def lE (K : PySem.W.Frag) (W : WX) (w : WE) : TE := fun σ H Q => ∃ F cs ρ P Z, Sta K F (pur F cs H) cs H ∧ RepE K (pur F cs H) σ ρ ∧ w ρ cs P Z ∧ PostE K F (pur F cs H) P Q ∧ PostX K F (pur F cs H) Z fun c d H' => W c d σ H'
def lT (K : PySem.W.Frag) (W : WX) (w : WT) : TT := fun σ H Q => ∃ F cs ρ P Z, Sta K F (pur F cs H) cs H ∧ RepE K (pur F cs H) σ ρ ∧ w ρ cs P Z ∧ (∀ H' cs' b, Sta K F (pur F cs H) cs' H' → P b cs' → Q b H') ∧ PostX K F (pur F cs H) Z fun c d H' => W c d σ H'
def lA (K : PySem.W.Frag) (W : WX) (n : Nat) (w : WA) : TA := fun σ H Q => ∃ F cs ρ P Z, Sta K F (pur F cs H) cs H ∧ RepE K (pur F cs H) σ ρ ∧ w ρ cs P Z ∧
  (∀ H' cs' vs ds, Sta K F (pur F cs H) cs' H' → RepL K (pur F cs' H') vs ds → ds.length = n → P ds cs' → Q vs H') ∧ PostX K F (pur F cs H) Z fun c d H' => W c d σ H'
structure PostS (K : PySem.W.Frag) (F G : Hp) (W : WX) (f : Fin) (E : Ends) : Prop where
  nx : ∀ H' cs' σ' ρ', Sta K F G cs' H' → RepE K (pur F cs' H') σ' ρ' → f.nx ρ' cs' → E.nx σ' H'
  bk : ∀ H' cs' σ' ρ', Sta K F G cs' H' → RepE K (pur F cs' H') σ' ρ' → f.bk ρ' cs' → E.bk σ' H'
  ct : ∀ H' cs' σ' ρ', Sta K F G cs' H' → RepE K (pur F cs' H') σ' ρ' → f.ct ρ' cs' → E.ct σ' H'
  rt : PostE K F G f.rt E.rt
  ex : ∀ H' cs' σ' ρ' x d, Sta K F G cs' H' → RepE K (pur F cs' H') σ' ρ' → XR K (pur F cs' H') d x.fs → f.ex x ρ' cs' → W (.ref (He.ga K x.cls)) d σ' H'
theorem PostS.le {K : PySem.W.Frag} {F G G' : Hp} {W : WX} {f : Fin} {E : Ends} (h : PostS K F G W f E) (e : Ex G G') : PostS K F G' W f E :=
  ⟨fun H' cs' σ' ρ' s => h.nx H' cs' σ' ρ' (s.from_ e), fun H' cs' σ' ρ' s => h.bk H' cs' σ' ρ' (s.from_ e), fun H' cs' σ' ρ' s => h.ct H' cs' σ' ρ' (s.from_ e), h.rt.le e, fun H' cs' σ' ρ' x d s => h.ex H' cs' σ' ρ' x d (s.from_ e)⟩
def lS (K : PySem.W.Frag) (W : WX) (w : WS) : TS := fun E σ H => ∃ F cs ρ f, Sta K F (pur F cs H) cs H ∧ RepE K (pur F cs H) σ ρ ∧ w f ρ cs ∧ PostS K F (pur F cs H) W f E
abbrev DE (X : Cx) (W : WX) (e : Expr) (w : WE) : Prop := PE X e (lE X.K W w)
abbrev DT (X : Cx) (W : WX) (e : Expr) (w : WT) : Prop := PT X e (lT X.K W w)
abbrev DW (X : Cx) (W : WX) (e : Expr) (w : WT) : Prop := PW X e (lT X.K W w)
abbrev DA (X : Cx) (W : WX) (es : List Expr) (w : WA) : Prop := PA X es (lA X.K W es.length w)
abbrev DS (X : Cx) (W : WX) (st : Stmt) (w : WS) : Prop := PS X st (lS X.K W w)
abbrev DSs (X : Cx) (W : WX) (st : List Stmt) (w : WS) : Prop := PSs X st (lS X.K W w)
theorem PE.imp {X : Cx} {e : Expr} {t t' : TE} (h : PE X e t) (i : ∀ σ H Q, t' σ H Q → t σ H Q) : PE X e t' := ⟨fun pins s σ H Q I q => h.run pins s σ H Q I (i σ H Q q)⟩
theorem PT.imp {X : Cx} {e : Expr} {t t' : TT} (h : PT X e t) (i : ∀ σ H Q, t' σ H Q → t σ H Q) : PT X e t' := ⟨fun pins s σ H Q I q => h.run pins s σ H Q I (i σ H Q q)⟩
theorem PW.imp {X : Cx} {e : Expr} {t t' : TT} (h : PW X e t) (i : ∀ σ H Q, t' σ H Q → t σ H Q) : PW X e t' := ⟨fun wh pins s σ H Q I q => h.run wh pins s σ H Q I (i σ H Q q)⟩
theorem PA.imp {X : Cx} {e : List Expr} {t t' : TA} (h : PA X e t) (i : ∀ σ H Q, t' σ H Q → t σ H Q) : PA X e t' := ⟨fun pos pins s σ H Q I q => h.run pos pins s σ H Q I (i σ H Q q)⟩
theorem PS.imp {X : Cx} {st : Stmt} {t t' : TS} (h : PS X st t) (i : ∀ E σ H, t' E σ H → t E σ H) : PS X st t' := ⟨fun pins s σ H E I q => h.run pins s σ H E I (i E σ H q)⟩
theorem PSs.imp {X : Cx} {st : List Stmt} {t t' : TS} (h : PSs X st t) (i : ∀ E σ H, t' E σ H → t E σ H) : PSs X st t' := ⟨fun pins s σ H E I q => h.run pins s σ H E I (i E σ H q)⟩
end DL
namespace DL
open PySem L2
section
variable {X : Cx} {W : WX} {K : PySem.W.Frag} {σ : St} {H : Hp}
def wVar (i : Nat) : WE := fun ρ cs P _ => match ρ[i]? with
  | some (some d) => P d cs
  | _ => False
theorem d_var (i : Nat) {x : Str} {pos : Pos} (hN : X.N[i]? = some x := by rfl) (hv : Vis X.env.scope x := by first | exact Or.inl rfl | exact Or.inr (Or.inl rfl) | exact Or.inr (Or.inr rfl)) (hd : (x == ("__debug__" : Str)) = false := by decide)
    (hcd : (x == ("__classdict__" : Str)) = false := by decide) : DE X W (.Name x pos) (wVar i) :=
  PE.imp (pe_var (i := i) hN hv hd hcd) fun σ H Q ⟨F, cs, ρ, P, Z, s, re, hw, pe, px⟩ => by
    unfold wVar at hw
    split at hw
    · rename_i d e
      obtain ⟨v, h1, h2⟩ := re.get e
      exact ⟨v, h1, pe H cs v d s h2 hw⟩
    · exact hw.elim in
#guard_msgs (pass all) in open Nat
def wC (d : D) : WE := fun _ cs P _ => P d cs
theorem d_of {e : Expr} {v : V} {d : D} (h : PE X e (tC v)) (r : ∀ G, Rep X.K G v d) : DE X W e (wC d) :=
  PE.imp h fun σ H Q ⟨F, cs, ρ, P, Z, s, re, hw, pe, px⟩ => pe H cs v d s (r _) hw
theorem d_int {i j pos} : DE X W (.Constant (.int i) j pos) (wC (.int i)) := d_of pe_int fun _ => .int _
theorem d_bl {b j pos} : DE X W (.Constant (.bool b) j pos) (wC (.bl b)) := d_of pe_bl fun _ => .bl _
theorem d_non {j pos} : DE X W (.Constant .none j pos) (wC .non) := d_of pe_non fun _ => .non
theorem d_str {x j pos} : DE X W (.Constant (.str x) j pos) (wC (.str x)) := d_of pe_str fun _ => .str _
abbrev DO2 := D → D → Cs → DP → Prop
def Adq (K : PySem.W.Frag) (r : R2) (o : DO2) : Prop := ∀ F cs H x y dx dy P Q, Sta K F (pur F cs H) cs H → Rep K (pur F cs H) x dx → Rep K (pur F cs H) y dy → o dx dy cs P → PostE K F (pur F cs H) P Q → r x y H Q
def wOp (o : DO2) (wa wb : WE) : WE := fun ρ cs P Z => wa ρ cs (fun x cs1 => wb ρ cs1 (fun y cs2 => o x y cs2 P) Z) Z
theorem bin_ok {r : R2} {o : DO2} {wa wb : WE} (adq : Adq K r o) {Q : VK} : lE K W (wOp o wa wb) σ H Q → tOp r (lE K W wa) (lE K W wb) σ H Q := by
  rintro ⟨F, cs, ρ, P, Z, s, re, hw, pe, px⟩
  refine ⟨F, cs, ρ, _, Z, s, re, hw, fun H1 cs1 v d s1 r1 h1 => ?_, px⟩
  refine ⟨F, cs1, ρ, _, Z, s1.self, re.mono s1.gr, h1, fun H2 cs2 v2 d2 s2 r2 h2 => ?_, px.le s1.gr⟩
  exact adq F cs2 H2 v v2 d d2 P Q s2.self (r1.mono s2.gr) r2 h2 (pe.le (s1.gr.trans s2.gr)) in
#guard_msgs (pass all) in open Nat
theorem d_op {op : Operator} {r : R2} {o : DO2} {a b : Expr} {wa wb : WE} {pos : Pos} (ho : OpR X (binaryOp op) r) (adq : Adq X.K r o) (ha : DE X W a wa) (hb : DE X W b wb) : DE X W (.BinOp a op b pos) (wOp o wa wb) :=
  PE.imp (pe_op ho ha hb) fun _ _ _ h => bin_ok adq h
theorem d_cmp {op : CmpOp} {r : R2} {o : DO2} {a b : Expr} {wa wb : WE} {pos : Pos} (ho : OpR X (compareOp op) r) (adq : Adq X.K r o) (ha : DE X W a wa) (hb : DE X W b wb) (hm : behindInMarks op b = false) : DE X W (.Compare a [op] [b] pos) (wOp o wa wb) :=
  PE.imp (pe_cmpR ho ha hb hm) fun _ _ _ h => bin_ok adq h
theorem d_ix {r : R2} {o : DO2} {a b : Expr} {wa wb : WE} {pos : Pos} (ho : IxR X r) (adq : Adq X.K r o) (ha : DE X W a wa) (hb : DE X W b wb) (hs : PlainIx b := by intro _ _; rfl) : DE X W (.Subscript a b pos) (wOp o wa wb) :=
  PE.imp (pe_ix ho ha hb hs) fun _ _ _ h => bin_ok adq h in
#guard_msgs (pass all) in open Nat
def oI (g : Int → Int → D) : DO2 := fun x y cs P => match x, y with
  | .int i, .int j => P (g i j) cs
  | _, _ => False
def oIC (C : Int → Int → Prop) (g : Int → Int → D) : DO2 := fun x y cs P => match x, y with
  | .int i, .int j => C i j ∧ P (g i j) cs
  | _, _ => False
theorem adq_I0 {g : Int → Int → V} {g' : Int → Int → D} (h : ∀ i j G, Rep K G (g i j) (g' i j)) : Adq K (rI0 g) (oI g') := fun F cs H x y dx dy P Q s rx ry ho pe => by
  unfold oI at ho
  split at ho
  · cases rx; cases ry; exact ⟨_, _, rfl, rfl, pe H cs _ _ s (h _ _ _) ho⟩
  · exact ho.elim
theorem adq_I {C : Int → Int → Prop} {g : Int → Int → V} {g' : Int → Int → D} (h : ∀ i j G, Rep K G (g i j) (g' i j)) : Adq K (rI C g) (oIC C g') := fun F cs H x y dx dy P Q s rx ry ho pe => by
  unfold oIC at ho
  split at ho
  · cases rx; cases ry; exact ⟨_, _, rfl, rfl, ho.1, pe H cs _ _ s (h _ _ _) ho.2⟩
  · exact ho.elim
theorem op_mulX : OpR X (binaryOp .Mult) (rI IntMulOk fun i j => .int (i * j)) := opI fun _ _ _ _ _ _ _ hc q => PyProof.Rows.mul_int q hc
variable {a b : Expr} {wa wb : WE} {pos : Pos}
def oAdd : DO2 := oI fun i j => .int (i + j)
def oSub : DO2 := oI fun i j => .int (i - j)
def oMul : DO2 := oIC IntMulOk fun i j => .int (i * j)
def oDiv : DO2 := oIC CDivW fun i j => .int (i / j)
def oMod : DO2 := oIC (fun _ j => 0 < j) fun i j => .int (i % j)
def oPow : DO2 := oIC CPow fun i j => .int (i ^ j.toNat)
theorem d_add (ha : DE X W a wa) (hb : DE X W b wb) : DE X W (.BinOp a .Add b pos) (wOp oAdd wa wb) := d_op op_add (adq_I0 fun _ _ _ => .int _) ha hb
theorem d_sub (ha : DE X W a wa) (hb : DE X W b wb) : DE X W (.BinOp a .Sub b pos) (wOp oSub wa wb) := d_op op_sub (adq_I0 fun _ _ _ => .int _) ha hb
theorem d_mul (ha : DE X W a wa) (hb : DE X W b wb) : DE X W (.BinOp a .Mult b pos) (wOp oMul wa wb) := d_op op_mulX (adq_I fun _ _ _ => .int _) ha hb
theorem d_fdiv (ha : DE X W a wa) (hb : DE X W b wb) : DE X W (.BinOp a .FloorDiv b pos) (wOp oDiv wa wb) := d_op op_fdivW (adq_I fun _ _ _ => .int _) ha hb
theorem d_mod (ha : DE X W a wa) (hb : DE X W b wb) : DE X W (.BinOp a .Mod b pos) (wOp oMod wa wb) := d_op op_mod (adq_I fun _ _ _ => .int _) ha hb
theorem d_pow (ha : DE X W a wa) (hb : DE X W b wb) : DE X W (.BinOp a .Pow b pos) (wOp oPow wa wb) := d_op op_pow (adq_I fun _ _ _ => .int _) ha hb
def oLt : DO2 := oI fun i j => .bl (decide (i < j))
def oLe : DO2 := oI fun i j => .bl (decide (i ≤ j))
def oGt : DO2 := oI fun i j => .bl (decide (j < i))
def oGe : DO2 := oI fun i j => .bl (decide (j ≤ i))
theorem d_lt (ha : DE X W a wa) (hb : DE X W b wb) : DE X W (.Compare a [.Lt] [b] pos) (wOp oLt wa wb) := d_cmp op_lt (adq_I0 fun _ _ _ => .bl _) ha hb (nomark _)
theorem d_gt (ha : DE X W a wa) (hb : DE X W b wb) : DE X W (.Compare a [.Gt] [b] pos) (wOp oGt wa wb) := d_cmp op_gt (adq_I0 fun _ _ _ => .bl _) ha hb (nomark _)
theorem d_ge (ha : DE X W a wa) (hb : DE X W b wb) : DE X W (.Compare a [.GtE] [b] pos) (wOp oGe wa wb) := d_cmp op_ge (adq_I0 fun _ _ _ => .bl _) ha hb (nomark _)
def wUn (o : D → Cs → DP → Prop) (wa : WE) : WE := fun ρ cs P Z => wa ρ cs (fun x cs1 => o x cs1 P) Z
def oNeg : D → Cs → DP → Prop := fun x cs P => match x with
  | .int i => P (.int (-i)) cs
  | _ => False
theorem oNeg_inv {x : D} {cs : Cs} {P : DP} (h : oNeg x cs P) : ∃ i, x = .int i ∧ P (.int (-i)) cs := by
  cases x <;> first | exact h.elim | exact ⟨_, rfl, h⟩ in
#guard_msgs (pass all) in open Nat
theorem d_neg (ha : DE X W a wa) : DE X W (.UnaryOp .USub a pos) (wUn oNeg wa) := PE.imp (pe_un un_neg ha) fun σ H Q ⟨F, cs, ρ, P, Z, s, re, hw, pe, px⟩ =>
  ⟨F, cs, ρ, _, Z, s, re, hw, fun H1 cs1 v d s1 r1 h1 => by
    obtain ⟨i, rfl, h⟩ := oNeg_inv h1
    cases r1
    exact ⟨_, rfl, pe H1 cs1 _ _ s1 (.int _) h⟩, px⟩
mutual
def pyD : D → PyData
  | .bl b => .bool b
  | .int i => .int i
  | .str x => .str x
  | .tup xs => .tuple (pyL xs)
  | .lst xs => .list (pyL xs)
  | .non | .dic _ | .dct _ | .opq _ | .ins _ _ | .xcp _ _ _ _ => .none
def pyL : List D → List PyData
  | [] => []
  | d :: ds => pyD d :: pyL ds
end
mutual
/-- plain data: no dict, nothing opaque, at most n levels of lists and tuples -/
def plD : Nat → D → Bool
  | n + 1, .tup xs => decide (xs.length ≤ 100000) && plL n xs
  | n + 1, .lst xs => decide (xs.length ≤ 100000) && plL n xs
  | _, .non | _, .bl _ | _, .int _ | _, .str _ => true
  | _, _ => false
def plL : Nat → List D → Bool
  | _, [] => true
  | n, d :: ds => plD n d && plL n ds
end
theorem plD_t {n : Nat} {xs : List D} (h : plD (n + 1) (.tup xs) = true) : plL n xs = true := by
  simp only [plD, Bool.and_eq_true] at h; exact h.2 in
#guard_msgs (pass all) in open Nat
theorem plD_l {n : Nat} {xs : List D} (h : plD (n + 1) (.lst xs) = true) : plL n xs = true := by
  simp only [plD, Bool.and_eq_true] at h; exact h.2 in
#guard_msgs (pass all) in open Nat
theorem plD_tn {n : Nat} {xs : List D} (h : plD (n + 1) (.tup xs) = true) : xs.length ≤ 100000 := by
  simp only [plD, Bool.and_eq_true, decide_eq_true_eq] at h; exact h.1 in
#guard_msgs (pass all) in open Nat
theorem plD_ln {n : Nat} {xs : List D} (h : plD (n + 1) (.lst xs) = true) : xs.length ≤ 100000 := by
  simp only [plD, Bool.and_eq_true, decide_eq_true_eq] at h; exact h.1 in
#guard_msgs (pass all) in open Nat
theorem plD_tI {n : Nat} {xs : List D} (h : plL n xs = true) (hl : xs.length ≤ 100000) : plD (n + 1) (.tup xs) = true := by
  simp only [plD, Bool.and_eq_true, decide_eq_true_eq]; exact ⟨hl, h⟩ in
#guard_msgs (pass all) in open Nat
theorem plD_lI {n : Nat} {xs : List D} (h : plL n xs = true) (hl : xs.length ≤ 100000) : plD (n + 1) (.lst xs) = true := by
  simp only [plD, Bool.and_eq_true, decide_eq_true_eq]; exact ⟨hl, h⟩ in
#guard_msgs (pass all) in open Nat
mutual
def eqD : D → D → Bool
  | .non, .non => true
  | .bl a, .bl b => a == b
  | .bl a, .int j => (if a then 1 else 0) == j
  | .int i, .bl b => i == (if b then 1 else 0)
  | .int i, .int j => i == j
  | .str x, .str y => x == y
  | .lst xs, .lst ys => eqL xs ys
  | .tup xs, .tup ys => eqL xs ys
  | _, _ => false
def eqL : List D → List D → Bool
  | [], [] => true
  | x :: xs, y :: ys => eqD x y && eqL xs ys
  | _, _ => false
end
mutual
theorem plD_plain : ∀ (d : D) (n : Nat), plD n d = true → (pyD d).plain = true ∧ (pyD d).depth ≤ n
  | .non, n, _ => ⟨by simp [pyD, PyData.plain], by simp [pyD, PyData.depth]⟩
  | .bl _, n, _ => ⟨by simp [pyD, PyData.plain], by simp [pyD, PyData.depth]⟩
  | .int _, n, _ => ⟨by simp [pyD, PyData.plain], by simp [pyD, PyData.depth]⟩
  | .str _, n, _ => ⟨by simp [pyD, PyData.plain], by simp [pyD, PyData.depth]⟩
  | .tup xs, 0, h => by simp [plD] at h
  | .lst xs, 0, h => by simp [plD] at h
  | .tup xs, n + 1, h => by
    have h' := plL_plain xs n (plD_t h)
    simp only [pyD, PyData.plain, PyData.depth]
    exact ⟨h'.1, Nat.succ_le_succ h'.2⟩
  | .lst xs, n + 1, h => by
    have h' := plL_plain xs n (plD_l h)
    simp only [pyD, PyData.plain, PyData.depth]
    exact ⟨h'.1, Nat.succ_le_succ h'.2⟩
  | .dic _, n, h => by cases n <;> simp [plD] at h
  | .dct _, n, h => by cases n <;> simp [plD] at h
  | .ins _ _, n, h => by cases n <;> simp [plD] at h
  | .xcp _ _ _ _, n, h => by cases n <;> simp [plD] at h
  | .opq _, n, h => by cases n <;> simp [plD] at h
theorem plL_plain : ∀ (ds : List D) (n : Nat), plL n ds = true → PyData.plainAll (pyL ds) = true ∧ PyData.depthAll (pyL ds) ≤ n
  | [], n, _ => ⟨by simp [pyL, PyData.plainAll], by simp [pyL, PyData.depthAll]⟩
  | d :: ds, n, h => by
    simp only [plL, Bool.and_eq_true] at h
    have h1 := plD_plain d n h.1
    have h2 := plL_plain ds n h.2
    simp only [pyL, PyData.plainAll, PyData.depthAll, Bool.and_eq_true]
    exact ⟨⟨h1.1, h2.1⟩, Nat.max_le.mpr ⟨h1.2, h2.2⟩⟩
end
mutual
theorem eqD_eqv : ∀ (d e : D) (n m : Nat), plD n d = true → plD m e = true → PyData.eqv (pyD d) (pyD e) = eqD d e := by
  intro d e n m hd he
  cases d <;> cases e <;> first
    | (simp [pyD, PyData.eqv, eqD]; done)
    | (cases n <;> simp [plD] at hd; done)
    | (cases m <;> simp [plD] at he; done)
    | (cases n with
       | zero => simp [plD] at hd
       | succ n => cases m with
         | zero => simp [plD] at he
         | succ m => simp only [pyD, PyData.eqv, eqD]; exact eqL_eqv _ _ n m (by first | exact plD_t hd | exact plD_l hd) (by first | exact plD_t he | exact plD_l he))
theorem eqL_eqv : ∀ (d e : List D) (n m : Nat), plL n d = true → plL m e = true → PyData.eqvAll (pyL d) (pyL e) = eqL d e
  | [], [], _, _, _, _ => by simp [pyL, PyData.eqvAll, eqL]
  | [], _ :: _, _, _, _, _ => by simp [pyL, PyData.eqvAll, eqL]
  | _ :: _, [], _, _, _, _ => by simp [pyL, PyData.eqvAll, eqL]
  | d :: ds, e :: es, n, m, hd, he => by
    simp only [plL, Bool.and_eq_true] at hd he
    simp only [pyL, PyData.eqvAll, eqL]
    rw [eqD_eqv d e n m hd.1 he.1, eqL_eqv ds es n m hd.2 he.2]
end
mutual
theorem Rep.dp {G : Hp} (e : Ex G H) : ∀ {v : V} {d : D} (n : Nat), Rep K G v d → plD n d = true → Dp K H v (pyD d)
  | _, _, n, .non, _ => .non
  | _, _, n, .bl b, _ => .bl b
  | _, _, n, .int i, _ => .int i
  | _, _, n, .str x, _ => .str x
  | _, _, n, .opq v, h => by cases n <;> simp [plD] at h
  | _, _, 0, .lst h r, p => by simp [plD] at p
  | _, _, 0, .tup h r, p => by simp [plD] at p
  | _, _, n + 1, .lst h r, p => by
    simp only [pyD]
    exact .lst (ex_l e h) (RepL.dp e n r (plD_l p))
  | _, _, n + 1, .tup h r, p => by
    simp only [pyD]
    exact .tup (ex_t e h) (RepL.dp e n r (plD_t p))
  | _, _, n, .dic _ _, h => by cases n <;> simp [plD] at h
  | _, _, n, .dct _ _, h => by cases n <;> simp [plD] at h
  | _, _, n, .ins _ _ _, h => by cases n <;> simp [plD] at h
  | _, _, n, .xcp _ _, h => by cases n <;> simp [plD] at h
theorem RepL.dp {G : Hp} (e : Ex G H) : ∀ {v : List V} {d : List D} (n : Nat), RepL K G v d → plL n d = true → DpAll K H v (pyL d)
  | _, _, _, .nil, _ => by simp only [pyL]; exact .nil
  | _, _, n, .cons h r, p => by
    simp only [plL, Bool.and_eq_true] at p
    simp only [pyL]
    exact .cons (Rep.dp e n h p.1) (RepL.dp e n r p.2)
end
theorem pur_le {F : Hp} {cs : Cs} : Ex (pur F cs H) H := fun _ _ h => (pur_of h).1
/-- x == y of plain data -/
def oEq : DO2 := fun x y cs P => plD 20 x = true ∧ plD 20 y = true ∧ P (.bl (eqD x y)) cs
def oNe : DO2 := fun x y cs P => plD 20 x = true ∧ plD 20 y = true ∧ P (.bl (!eqD x y)) cs
def rEqP (K : PySem.W.Frag) : R2 := fun x y H Q => ∃ d e, Dp K H x d ∧ Dp K H y e ∧ d.plain = true ∧ e.plain = true ∧ d.depth ≤ 64 ∧ Q (.bl (PyData.eqv d e)) H
def rNeP (K : PySem.W.Frag) : R2 := fun x y H Q => ∃ d e, Dp K H x d ∧ Dp K H y e ∧ d.plain = true ∧ e.plain = true ∧ d.depth ≤ 64 ∧ Q (.bl (!PyData.eqv d e)) H
theorem room_plain {A : Around} {da db : PyData} (h : da.depth ≤ 64) (hu : A.units + 64 < cLine) : A.units + min da.depth db.depth < cLine := by
  have h2 : min da.depth db.depth ≤ da.depth := Nat.min_le_left _ _
  omega in
#guard_msgs (pass all) in open Nat
theorem op_eqP (hu : X.A.units + 64 < cLine) : OpR X (compareOp .Eq) (rEqP X.K) := by
  intro pins s σ H x y v u Q I rx ry h
  obtain ⟨d, e, hd, he, p1, p2, p3, q⟩ := h
  obtain ⟨as, r1⟩ := Dp.reads I d x v hd rx
  obtain ⟨bs, r2⟩ := Dp.reads I e y u he ry
  exact PySem.SeqAt.eq_plain r1 r2 p1 p2 (room_plain p3 hu) ⟨.bl _, H, I, rfl, q⟩ in
#guard_msgs (pass all) in open Nat
theorem op_neP (hu : X.A.units + 64 < cLine) : OpR X (compareOp .NotEq) (rNeP X.K) := by
  intro pins s σ H x y v u Q I rx ry h
  obtain ⟨d, e, hd, he, p1, p2, p3, q⟩ := h
  obtain ⟨as, r1⟩ := Dp.reads I d x v hd rx
  obtain ⟨bs, r2⟩ := Dp.reads I e y u he ry
  exact PySem.SeqAt.ne_plain r1 r2 p1 p2 (room_plain p3 hu) ⟨.bl _, H, I, rfl, q⟩ in
#guard_msgs (pass all) in open Nat
theorem adq_eq : Adq K (rEqP K) oEq := fun F cs H x y dx dy P Q s rx ry ho pe => by
  obtain ⟨p1, p2, h⟩ := ho
  have a1 := plD_plain dx 20 p1
  have a2 := plD_plain dy 20 p2
  refine ⟨_, _, Rep.dp pur_le 20 rx p1, Rep.dp pur_le 20 ry p2, a1.1, a2.1, Nat.le_trans a1.2 (by decide), ?_⟩
  rw [eqD_eqv dx dy 20 20 p1 p2]
  exact pe H cs _ _ s (.bl _) h
theorem adq_ne : Adq K (rNeP K) oNe := fun F cs H x y dx dy P Q s rx ry ho pe => by
  obtain ⟨p1, p2, h⟩ := ho
  have a1 := plD_plain dx 20 p1
  have a2 := plD_plain dy 20 p2
  refine ⟨_, _, Rep.dp pur_le 20 rx p1, Rep.dp pur_le 20 ry p2, a1.1, a2.1, Nat.le_trans a1.2 (by decide), ?_⟩
  rw [eqD_eqv dx dy 20 20 p1 p2]
  exact pe H cs _ _ s (.bl _) h
theorem d_eq (hu : X.A.units + 64 < cLine) (ha : DE X W a wa) (hb : DE X W b wb) : DE X W (.Compare a [.Eq] [b] pos) (wOp oEq wa wb) := d_cmp (op_eqP hu) adq_eq ha hb (nomark _)
theorem d_ne (hu : X.A.units + 64 < cLine) (ha : DE X W a wa) (hb : DE X W b wb) : DE X W (.Compare a [.NotEq] [b] pos) (wOp oNe wa wb) := d_cmp (op_neP hu) adq_ne ha hb (nomark _)
def atD (xs : List D) (i : Int) : Option D := atI xs i
def oIx : DO2 := fun x y cs P => match x, y with
  | .tup xs, .int i => (match atD xs i with
    | some d => P d cs
    | none => False)
  | .lst xs, .int i => (match atD xs i with
    | some d => P d cs
    | none => False)
  | _, _ => False
theorem RepL.atI {G : Hp} {vs : List V} {ds : List D} {i : Int} {d : D} (r : RepL K G vs ds) (h : atI ds i = some d) : ∃ v, atI vs i = some v ∧ Rep K G v d := by
  unfold L2.atI at h ⊢
  rw [r.length]
  cases e : ixN ds.length i with
  | none => rw [e] at h; cases h
  | some j =>
    rw [e] at h
    exact r.get h in
#guard_msgs (pass all) in open Nat
theorem adq_ix : Adq K (rIx K) oIx := fun F cs H x y dx dy P Q s rx ry ho pe => by
  unfold oIx at ho
  split at ho
  · rename_i xs i
    cases ry
    cases rx with
    | tup h r =>
      split at ho
      · rename_i d e
        obtain ⟨v, e1, e2⟩ := r.atI e
        exact .inr (.inl ⟨_, _, _, v, rfl, rfl, ex_t pur_le h, e1, pe H cs _ _ s e2 ho⟩)
      · exact ho.elim
  · rename_i xs i
    cases ry
    cases rx with
    | lst h r =>
      split at ho
      · rename_i d e
        obtain ⟨v, e1, e2⟩ := r.atI e
        exact .inl ⟨_, _, _, v, rfl, rfl, ex_l pur_le h, e1, pe H cs _ _ s e2 ho⟩
      · exact ho.elim
  · exact ho.elim in
#guard_msgs (pass all) in open Nat
theorem d_sub_ix (ha : DE X W a wa) (hb : DE X W b wb) (hs : PlainIx b := by intro _ _; rfl) : DE X W (.Subscript a b pos) (wOp oIx wa wb) := d_ix ix_seq adq_ix ha hb hs in
#guard_msgs (pass all) in open Nat
end
end DL
namespace DL
open PySem L2
section
variable {X : Cx} {W : WX} {K : PySem.W.Frag} {σ : St} {H : Hp} {a b c : Expr} {wa wb wc : WE} {pos : Pos}
def wTest (wa : WE) : WT := fun ρ cs P Z => wa ρ cs (fun x cs1 => match x with
  | .bl k => P k cs1
  | _ => False) Z
theorem test_inv {x : D} {cs : Cs} {P : Bool → Cs → Prop} (h : (match x with | D.bl k => P k cs | _ => False)) : ∃ k, x = .bl k ∧ P k cs := by
  cases x <;> first | exact h.elim | exact ⟨_, rfl, h⟩ in
#guard_msgs (pass all) in open Nat
/-- a comparison as a test -/
theorem dt_cmp {op : CmpOp} {r : R2} {o : DO2} (ho : OpR X (compareOp op) r) (adq : Adq X.K r o) (ha : DE X W a wa) (hb : DE X W b wb) (hm : behindInMarks op b = false) : DT X W (.Compare a [op] [b] pos) (wTest (wOp o wa wb)) :=
  PT.imp (pt_cmpR ho ha hb hm) fun σ H Q h => by
    obtain ⟨F, cs, ρ, P, Z, s, re, hw, pe, px⟩ := h
    have h2 : lE X.K W (wOp o wa wb) σ H (fun x H' => ∃ k, x = V.bl k ∧ Q k H') := ⟨F, cs, ρ, _, Z, s, re, hw, fun H1 cs1 v d s1 r1 h1 => by
      obtain ⟨k, rfl, h⟩ := test_inv h1
      cases r1
      exact ⟨k, rfl, pe H1 cs1 k s1 h⟩, px⟩
    exact bin_ok adq h2 in
#guard_msgs (pass all) in open Nat
theorem dt_lt (ha : DE X W a wa) (hb : DE X W b wb) : DT X W (.Compare a [.Lt] [b] pos) (wTest (wOp oLt wa wb)) := dt_cmp op_lt (adq_I0 fun _ _ _ => .bl _) ha hb (nomark _)
theorem dt_gt (ha : DE X W a wa) (hb : DE X W b wb) : DT X W (.Compare a [.Gt] [b] pos) (wTest (wOp oGt wa wb)) := dt_cmp op_gt (adq_I0 fun _ _ _ => .bl _) ha hb (nomark _)
theorem dt_ge (ha : DE X W a wa) (hb : DE X W b wb) : DT X W (.Compare a [.GtE] [b] pos) (wTest (wOp oGe wa wb)) := dt_cmp op_ge (adq_I0 fun _ _ _ => .bl _) ha hb (nomark _)
theorem dt_eq (hu : X.A.units + 64 < cLine) (ha : DE X W a wa) (hb : DE X W b wb) : DT X W (.Compare a [.Eq] [b] pos) (wTest (wOp oEq wa wb)) := dt_cmp (op_eqP hu) adq_eq ha hb (nomark _)
theorem dt_ne (hu : X.A.units + 64 < cLine) (ha : DE X W a wa) (hb : DE X W b wb) : DT X W (.Compare a [.NotEq] [b] pos) (wTest (wOp oNe wa wb)) := dt_cmp (op_neP hu) adq_ne ha hb (nomark _)
/-- an expression that gives a truth value, as a test -/
theorem dt_val {e : Expr} {w : WE} (h : DE X W e w) (he : ∀ whole, isTrue e X.env whole = (do let v ← whole; standAt e.pos; holding [v] (truthy v)) := by intro _; rfl) : DT X W e (wTest w) :=
  PT.imp (pt_val h he) fun σ H Q h => by
    obtain ⟨F, cs, ρ, P, Z, s, re, hw, pe, px⟩ := h
    refine ⟨F, cs, ρ, _, Z, s, re, hw, fun H1 cs1 v d s1 r1 h1 => ?_, px⟩
    obtain ⟨k, rfl, h⟩ := test_inv h1
    cases r1
    exact ⟨k, rfl, pe H1 cs1 k s1 h⟩ in
#guard_msgs (pass all) in open Nat
variable {ta tb : WT} {rest : List Expr}
def wAnd (ta tb : WT) : WT := fun ρ cs P Z => ta ρ cs (fun k cs1 => (k = true → tb ρ cs1 P Z) ∧ (k = false → P false cs1)) Z
def wOr (ta tb : WT) : WT := fun ρ cs P Z => ta ρ cs (fun k cs1 => (k = true → P true cs1) ∧ (k = false → tb ρ cs1 P Z)) Z
def wNot (ta : WT) : WT := fun ρ cs P Z => ta ρ cs (fun k cs1 => P (!k) cs1) Z
theorem dw_and1 (ha : DT X W a ta) : DW X W (.BoolOp .And [a] pos) ta := pw_and1 ha
theorem dw_or1 (ha : DT X W a ta) : DW X W (.BoolOp .Or [a] pos) ta := pw_or1 ha
theorem dw_and (ha : DT X W a ta) (hb : DW X W (.BoolOp .And (b :: rest) pos) tb) : DW X W (.BoolOp .And (a :: b :: rest) pos) (wAnd ta tb) :=
  PW.imp (pw_and ha hb) fun σ H Q h => by
    obtain ⟨F, cs, ρ, P, Z, s, re, hw, pe, px⟩ := h
    refine ⟨F, cs, ρ, _, Z, s, re, hw, fun H1 cs1 k s1 h1 => ?_, px⟩
    cases k with
    | true => exact iteT ⟨F, cs1, ρ, P, Z, s1.self, re.mono s1.gr, h1.1 rfl, fun H2 cs2 k s2 h2 => pe H2 cs2 k (s2.from_ s1.gr) h2, px.le s1.gr⟩
    | false => exact iteF (pe H1 cs1 false s1 (h1.2 rfl)) in
#guard_msgs (pass all) in open Nat
theorem dw_or (ha : DT X W a ta) (hb : DW X W (.BoolOp .Or (b :: rest) pos) tb) : DW X W (.BoolOp .Or (a :: b :: rest) pos) (wOr ta tb) :=
  PW.imp (pw_or ha hb) fun σ H Q h => by
    obtain ⟨F, cs, ρ, P, Z, s, re, hw, pe, px⟩ := h
    refine ⟨F, cs, ρ, _, Z, s, re, hw, fun H1 cs1 k s1 h1 => ?_, px⟩
    cases k with
    | false => exact iteF ⟨F, cs1, ρ, P, Z, s1.self, re.mono s1.gr, h1.2 rfl, fun H2 cs2 k s2 h2 => pe H2 cs2 k (s2.from_ s1.gr) h2, px.le s1.gr⟩
    | true => exact iteT (pe H1 cs1 true s1 (h1.1 rfl)) in
#guard_msgs (pass all) in open Nat
theorem dt_w {e : Expr} (h : DW X W e ta) : DT X W e ta := h.pt
theorem dt_not (ha : DT X W a ta) : DT X W (.UnaryOp .Not a pos) (wNot ta) :=
  PT.imp (pt_not ha) fun σ H Q h => by
    obtain ⟨F, cs, ρ, P, Z, s, re, hw, pe, px⟩ := h
    exact ⟨F, cs, ρ, _, Z, s, re, hw, fun H1 cs1 k s1 h1 => pe H1 cs1 _ s1 h1, px⟩
/-- as values -/
def wAndV (wa wb : WE) : WE := fun ρ cs P Z => wa ρ cs (fun x cs1 => match x with
  | .bl k => (k = true → wb ρ cs1 P Z) ∧ (k = false → P (.bl false) cs1)
  | _ => False) Z
def wOrV (wa wb : WE) : WE := fun ρ cs P Z => wa ρ cs (fun x cs1 => match x with
  | .bl k => (k = true → P (.bl true) cs1) ∧ (k = false → wb ρ cs1 P Z)
  | _ => False) Z
def wNotV (wa : WE) : WE := fun ρ cs P Z => wa ρ cs (fun x cs1 => match x with
  | .bl k => P (.bl (!k)) cs1
  | _ => False) Z
theorem d_one {op} (h : DE X W a wa) : DE X W (.BoolOp op [a] pos) wa := pe_one h
theorem d_and (ha : DE X W a wa) (hb : DE X W (.BoolOp .And (b :: rest) pos) wb) : DE X W (.BoolOp .And (a :: b :: rest) pos) (wAndV wa wb) :=
  PE.imp (pe_and ha hb) fun σ H Q h => by
    obtain ⟨F, cs, ρ, P, Z, s, re, hw, pe, px⟩ := h
    refine ⟨F, cs, ρ, _, Z, s, re, hw, fun H1 cs1 v d s1 r1 h1 => ?_, px⟩
    cases d <;> try exact h1.elim
    rename_i k
    cases r1
    cases k with
    | true => exact ⟨true, rfl, iteT ⟨F, cs1, ρ, P, Z, s1.self, re.mono s1.gr, h1.1 rfl, pe.le s1.gr, px.le s1.gr⟩⟩
    | false => exact ⟨false, rfl, iteF (pe H1 cs1 _ _ s1 (.bl _) (h1.2 rfl))⟩ in
#guard_msgs (pass all) in open Nat
theorem d_or (ha : DE X W a wa) (hb : DE X W (.BoolOp .Or (b :: rest) pos) wb) : DE X W (.BoolOp .Or (a :: b :: rest) pos) (wOrV wa wb) :=
  PE.imp (pe_or ha hb) fun σ H Q h => by
    obtain ⟨F, cs, ρ, P, Z, s, re, hw, pe, px⟩ := h
    refine ⟨F, cs, ρ, _, Z, s, re, hw, fun H1 cs1 v d s1 r1 h1 => ?_, px⟩
    cases d <;> try exact h1.elim
    rename_i k
    cases r1
    cases k with
    | true => exact ⟨true, rfl, iteT (pe H1 cs1 _ _ s1 (.bl _) (h1.1 rfl))⟩
    | false => exact ⟨false, rfl, iteF ⟨F, cs1, ρ, P, Z, s1.self, re.mono s1.gr, h1.2 rfl, pe.le s1.gr, px.le s1.gr⟩⟩ in
#guard_msgs (pass all) in open Nat
theorem d_not (ha : DE X W a wa) : DE X W (.UnaryOp .Not a pos) (wNotV wa) :=
  PE.imp (pe_not ha) fun σ H Q h => by
    obtain ⟨F, cs, ρ, P, Z, s, re, hw, pe, px⟩ := h
    refine ⟨F, cs, ρ, _, Z, s, re, hw, fun H1 cs1 v d s1 r1 h1 => ?_, px⟩
    cases d <;> try exact h1.elim
    rename_i k
    cases r1
    exact ⟨k, rfl, pe H1 cs1 _ _ s1 (.bl _) h1⟩
def wIf (t : WT) (wa wb : WE) : WE := fun ρ cs P Z => t ρ cs (fun k cs1 => (k = true → wa ρ cs1 P Z) ∧ (k = false → wb ρ cs1 P Z)) Z
theorem d_if (hc : DT X W c ta) (ha : DE X W a wa) (hb : DE X W b wb) : DE X W (.IfExp c a b pos) (wIf ta wa wb) :=
  PE.imp (pe_ifExp hc ha hb) fun σ H Q h => by
    obtain ⟨F, cs, ρ, P, Z, s, re, hw, pe, px⟩ := h
    refine ⟨F, cs, ρ, _, Z, s, re, hw, fun H1 cs1 k s1 h1 => ?_, px⟩
    cases k with
    | true => exact iteT ⟨F, cs1, ρ, P, Z, s1.self, re.mono s1.gr, h1.1 rfl, pe.le s1.gr, px.le s1.gr⟩
    | false => exact iteF ⟨F, cs1, ρ, P, Z, s1.self, re.mono s1.gr, h1.2 rfl, pe.le s1.gr, px.le s1.gr⟩ in
#guard_msgs (pass all) in open Nat
variable {e : Expr} {es : List Expr} {we : WE} {w : WA}
def wNil : WA := fun _ cs P _ => P [] cs
def wCons (we : WE) (w : WA) : WA := fun ρ cs P Z => we ρ cs (fun x cs1 => w ρ cs1 (fun xs cs2 => P (x :: xs) cs2) Z) Z
theorem da_nil : DA X W [] wNil := PA.imp pa_nil fun σ H Q ⟨F, cs, ρ, P, Z, s, re, hw, pe, px⟩ => pe H cs [] [] s .nil rfl hw
theorem da_cons (ha : DE X W e we) (hr : DA X W es w) (hs : starEach (e :: es) X.env = (false, eval e X.env) :: starEach es X.env := by rfl) : DA X W (e :: es) (wCons we w) :=
  PA.imp (pa_cons ha hr hs) fun σ H Q h => by
    obtain ⟨F, cs, ρ, P, Z, s, re, hw, pe, px⟩ := h
    refine ⟨F, cs, ρ, _, Z, s, re, hw, fun H1 cs1 v d s1 r1 h1 => ?_, px⟩
    refine ⟨F, cs1, ρ, _, Z, s1.self, re.mono s1.gr, h1, fun H2 cs2 vs ds s2 r2 l2 h2 => ?_, px.le s1.gr⟩
    exact pe H2 cs2 _ _ (s2.from_ s1.gr) (.cons (r1.mono s2.gr) r2) (congrArg Nat.succ l2) h2 in
#guard_msgs (pass all) in open Nat
def wTup (w : WA) : WE := fun ρ cs P Z => w ρ cs (fun ds cs1 => P (.tup ds) cs1) Z
def wLst (w : WA) : WE := fun ρ cs P Z => w ρ cs (fun ds cs1 => P (.lst ds) cs1) Z
/-- a new list that will change -/
def wLstM (w : WA) : WE := fun ρ cs P Z => w ρ cs (fun ds cs1 => ∀ p, p ∉ adr cs1 → P (.opq (.ref p)) ((p, .lst ds) :: cs1)) Z
theorem small_es {n : Nat} (h : n ≤ 1000) : n ≤ sizeLine := Nat.le_trans h (by decide)
theorem d_tup {x1} (h : DA X W es w) (hn : es.length ≤ 1000 := by decide) : DE X W (.Tuple es x1 pos) (wTup w) :=
  PE.imp (pe_tup h) fun σ H Q h => by
    obtain ⟨F, cs, ρ, P, Z, s, re, hw, pe, px⟩ := h
    refine ⟨F, cs, ρ, _, Z, s, re, hw, fun H1 cs1 vs ds s1 r1 l1 h1 => ⟨by rw [r1.length, l1]; exact small_es hn, fun p hp => ?_⟩, px⟩
    obtain ⟨s2, e2⟩ := s1.new (o := .tup vs) hp
    exact pe _ cs1 _ _ (s2.from_ s1.gr) (.tup (SqT.of e2) (r1.mono s2.gr)) h1 in
#guard_msgs (pass all) in open Nat
theorem d_lst (h : DA X W es w) (hn : es.length ≤ 1000 := by decide) : DE X W (.List es pos) (wLst w) :=
  PE.imp (pe_lst h) fun σ H Q h => by
    obtain ⟨F, cs, ρ, P, Z, s, re, hw, pe, px⟩ := h
    refine ⟨F, cs, ρ, _, Z, s, re, hw, fun H1 cs1 vs ds s1 r1 l1 h1 => ⟨by rw [r1.length, l1]; exact small_es hn, fun p hp => ?_⟩, px⟩
    obtain ⟨s2, e2⟩ := s1.new (o := .lst vs) hp
    exact pe _ cs1 _ _ (s2.from_ s1.gr) (.lst (SqL.of e2) (r1.mono s2.gr)) h1 in
#guard_msgs (pass all) in open Nat
theorem d_lstM (h : DA X W es w) (hn : es.length ≤ 1000 := by decide) : DE X W (.List es pos) (wLstM w) :=
  PE.imp (pe_lst h) fun σ H Q h => by
    obtain ⟨F, cs, ρ, P, Z, s, re, hw, pe, px⟩ := h
    refine ⟨F, cs, ρ, _, Z, s, re, hw, fun H1 cs1 vs ds s1 r1 l1 h1 => ⟨by rw [r1.length, l1]; exact small_es hn, fun p hp => ?_⟩, px⟩
    have s2 := s1.newM (m := .lst ds) (o := .lst vs) hp r1
    exact pe _ _ _ _ (s2.from_ s1.gr) (.opq _) (h1 p (s1.notin hp).2) in
#guard_msgs (pass all) in open Nat
abbrev DOn := List D → Cs → DP → Prop
def AdqN (K : PySem.W.Frag) (r : List V → Hp → VK → Prop) (o : DOn) : Prop := ∀ F cs H xs ds P Q, Sta K F (pur F cs H) cs H → RepL K (pur F cs H) xs ds → o ds cs P → PostE K F (pur F cs H) P Q → r xs H Q
def wCB (o : DOn) (w : WA) : WE := fun ρ cs P Z => w ρ cs (fun ds cs1 => o ds cs1 P) Z
theorem cb_ok {r : List V → Hp → VK → Prop} {o : DOn} {n : Nat} (adq : AdqN K r o) {Q : VK} : lE K W (wCB o w) σ H Q → tCB r (lA K W n w) σ H Q := by
  rintro ⟨F, cs, ρ, P, Z, s, re, hw, pe, px⟩
  exact ⟨F, cs, ρ, _, Z, s, re, hw, fun H1 cs1 vs ds s1 r1 l1 h1 => adq F cs1 H1 vs ds P Q s1.self r1 h1 (pe.le s1.gr), px⟩ in
#guard_msgs (pass all) in open Nat
variable {x : Str} {p : Pos} {id T : String} {r : List V → Hp → VK → Prop} {o : DOn}
theorem d_callB (hc : CallR X (.builtin id) r) (adq : AdqN X.K r o) (hg : Gl X x) (hm : X.mg x = none) (hv : bootBuiltins x = some (.builtin id)) (ha : DA X W (e :: es) w) (hn : x ≠ "__name__" := by decide) (hdb : (x == ("__debug__" : Str)) = false := by decide)
    (he : starEach (e :: es) X.env = (false, eval e X.env) :: starEach es X.env := by rfl) (hpl : (backTo pos (starEach es X.env)).any (·.1) = false := by rfl) : DE X W (.Call (.Name x p) (e :: es) [] pos) (wCB o w) :=
  PE.imp (pe_callB hc hg hm hv ha hn hdb he hpl) fun _ _ _ h => cb_ok adq h in
#guard_msgs (pass all) in open Nat
theorem d_callTy (hc : CallR X (.type T) r) (adq : AdqN X.K r o) (hg : Gl X x) (hm : X.mg x = none) (hv : bootBuiltins x = some (.type T)) (ha : DA X W (e :: es) w) (hn : x ≠ "__name__" := by decide) (hdb : (x == ("__debug__" : Str)) = false := by decide)
    (he : starEach (e :: es) X.env = (false, eval e X.env) :: starEach es X.env := by rfl) (hpl : (backTo pos (starEach es X.env)).any (·.1) = false := by rfl) : DE X W (.Call (.Name x p) (e :: es) [] pos) (wCB o w) :=
  PE.imp (pe_callTy hc hg hm hv ha hn hdb he hpl) fun _ _ _ h => cb_ok adq h in
#guard_msgs (pass all) in open Nat
def oAbs : DOn := fun ds cs P => match ds with
  | [.int i] => P (.int (if i < 0 then -i else i)) cs
  | _ => False
def oLen : DOn := fun ds cs P => match ds with
  | [.lst xs] => P (.int xs.length) cs
  | [.tup xs] => P (.int xs.length) cs
  | _ => False
def oList : DOn := fun ds cs P => match ds with
  | [.lst xs] => P (.lst xs) cs
  | [.tup xs] => P (.lst xs) cs
  | _ => False
theorem adq_abs : AdqN K (fun xs H Q => ∃ i, xs = [.int i] ∧ Q (.int (if i < 0 then -i else i)) H) oAbs := fun F cs H xs ds P Q s r ho pe => by
  unfold oAbs at ho
  split at ho
  · cases r with
    | cons h t => cases h; cases t; exact ⟨_, rfl, pe H cs _ _ s (.int _) ho⟩
  · exact ho.elim
theorem adq_len : AdqN K (fun xs H Q => ∃ p ys, xs = [.ref p] ∧ (SqL K H p ys ∨ SqT K H p ys) ∧ Q (.int ys.length) H) oLen := fun F cs H xs ds P Q s r ho pe => by
  unfold oLen at ho
  split at ho
  · cases r with
    | cons h t =>
      cases t
      cases h with
      | lst h r => exact ⟨_, _, rfl, .inl (ex_l pur_le h), by rw [r.length]; exact pe H cs _ _ s (.int _) ho⟩
  · cases r with
    | cons h t =>
      cases t
      cases h with
      | tup h r => exact ⟨_, _, rfl, .inr (ex_t pur_le h), by rw [r.length]; exact pe H cs _ _ s (.int _) ho⟩
  · exact ho.elim in
#guard_msgs (pass all) in open Nat
theorem adq_list : AdqN K (fun xs H Q => ∃ p ys, xs = [.ref p] ∧ (SqL K H p ys ∨ SqT K H p ys) ∧ ∀ l, H l = none → Q (.ref l) (upd H l (.lst ys))) oList := fun F cs H xs ds P Q s r ho pe => by
  have fin : ∀ {ys : List V} {es : List D} {l : Addr}, RepL K (pur F cs H) ys es → H l = none → P (.lst es) cs → Q (.ref l) (upd H l (.lst ys)) := fun {ys es l} hr hl hp => by
    obtain ⟨s2, e2⟩ := s.new (o := .lst ys) hl
    exact pe _ cs _ _ s2 (.lst (SqL.of e2) (hr.mono s2.gr)) hp
  unfold oList at ho
  split at ho
  · cases r with
    | cons h t =>
      cases t
      cases h with
      | lst h r => exact ⟨_, _, rfl, .inl (ex_l pur_le h), fun l hl => fin r hl ho⟩
  · cases r with
    | cons h t =>
      cases t
      cases h with
      | tup h r => exact ⟨_, _, rfl, .inr (ex_t pur_le h), fun l hl => fin r hl ho⟩
  · exact ho.elim in
#guard_msgs (pass all) in open Nat
abbrev WO := Env → Cs → (Option Int → Cs → Prop) → XZ → Prop
def lO (K : PySem.W.Frag) (W : WX) (w : WO) : TO := fun σ H Q => ∃ F cs ρ P Z, Sta K F (pur F cs H) cs H ∧ RepE K (pur F cs H) σ ρ ∧ w ρ cs P Z ∧ (∀ H' cs' b, Sta K F (pur F cs H) cs' H' → P b cs' → Q b H') ∧ PostX K F (pur F cs H) Z fun c d H' => W c d σ H'
abbrev DOp (X : Cx) (W : WX) (e : Option Expr) (w : WO) : Prop := PO X e (lO X.K W w)
theorem PO.imp {X : Cx} {e : Option Expr} {t t' : TO} (h : PO X e t) (i : ∀ σ H Q, t' σ H Q → t σ H Q) : PO X e t' := ⟨fun pins s σ H Q I q => h.run pins s σ H Q I (i σ H Q q)⟩
def wNoPart : WO := fun _ cs P _ => P none cs
def wPart (we : WE) : WO := fun ρ cs P Z => we ρ cs (fun x cs1 => match x with
  | .int i => P (some i) cs1
  | _ => False) Z
theorem do_none : DOp X W none wNoPart := PO.imp po_none fun σ H Q ⟨F, cs, ρ, P, Z, s, re, hw, pe, px⟩ => pe H cs none s hw
theorem do_some (h : DE X W e we) : DOp X W (some e) (wPart we) := PO.imp (po_some h) fun σ H Q h => by
  obtain ⟨F, cs, ρ, P, Z, s, re, hw, pe, px⟩ := h
  refine ⟨F, cs, ρ, _, Z, s, re, hw, fun H1 cs1 v d s1 r1 h1 => ?_, px⟩
  cases d <;> try exact h1.elim
  cases r1
  exact ⟨_, rfl, pe H1 cs1 _ s1 h1⟩
def cutD (xs : List D) (lo hi : Option Int) : List D := (xs.drop (HT.sIx xs.length 0 lo)).take (HT.sIx xs.length xs.length hi - HT.sIx xs.length 0 lo)
theorem RepL.cut {G : Hp} {vs : List V} {ds : List D} (r : RepL K G vs ds) (lo hi : Option Int) : RepL K G (cutV vs lo hi) (cutD ds lo hi) := by
  unfold cutV cutD
  rw [r.length]
  exact (r.drop _).take _ in
#guard_msgs (pass all) in open Nat
def oSlL : D → Option Int → Option Int → Cs → DP → Prop := fun x lo hi cs P => match x with
  | .lst xs => P (.lst (cutD xs lo hi)) cs
  | _ => False
def wSl (o : D → Option Int → Option Int → Cs → DP → Prop) (we : WE) (wl wh : WO) : WE := fun ρ cs P Z => we ρ cs (fun x cs1 => wl ρ cs1 (fun l cs2 => wh ρ cs2 (fun u cs3 => o x l u cs3 P) Z) Z) Z
def AdqS (K : PySem.W.Frag) (r : V → Option Int → Option Int → Hp → VK → Prop) (o : D → Option Int → Option Int → Cs → DP → Prop) : Prop := ∀ F cs H x dx lo hi P Q, Sta K F (pur F cs H) cs H → Rep K (pur F cs H) x dx → o dx lo hi cs P → PostE K F (pur F cs H) P Q → r x lo hi H Q
theorem d_slice {r : V → Option Int → Option Int → Hp → VK → Prop} {o : D → Option Int → Option Int → Cs → DP → Prop} {lo hi : Option Expr} {wl wh : WO} {p2 : Pos} (hr : SlR X r) (adq : AdqS X.K r o) (he : DE X W e we) (hl : DOp X W lo wl) (hu : DOp X W hi wh) :
    DE X W (.Subscript e (.Slice lo hi none p2) pos) (wSl o we wl wh) :=
  PE.imp (pe_slice hr he hl hu) fun σ H Q h => by
    obtain ⟨F, cs, ρ, P, Z, s, re, hw, pe, px⟩ := h
    refine ⟨F, cs, ρ, _, Z, s, re, hw, fun H1 cs1 v d s1 r1 h1 => ?_, px⟩
    refine ⟨F, cs1, ρ, _, Z, s1.self, re.mono s1.gr, h1, fun H2 cs2 l s2 h2 => ?_, px.le s1.gr⟩
    refine ⟨F, cs2, ρ, _, Z, s2.self, re.mono (s1.gr.trans s2.gr), h2, fun H3 cs3 u s3 h3 => ?_, px.le (s1.gr.trans s2.gr)⟩
    exact adq F cs3 H3 v d l u P Q s3.self (r1.mono (s2.gr.trans s3.gr)) h3 (pe.le ((s1.gr.trans s2.gr).trans s3.gr)) in
#guard_msgs (pass all) in open Nat
theorem adq_slL : AdqS K (rSlL K) oSlL := fun F cs H x dx lo hi P Q s rx ho pe => by
  unfold oSlL at ho
  split at ho
  · cases rx with
    | lst h r =>
      refine ⟨_, _, rfl, ex_l pur_le h, fun p hp => ?_⟩
      obtain ⟨s2, e2⟩ := s.new (o := .lst (cutV _ lo hi)) hp
      exact pe _ cs _ _ s2 (.lst (SqL.of e2) ((r.cut lo hi).mono s2.gr)) ho
  · exact ho.elim
end
end DL
namespace DL
open PySem L2
section
variable {X : Cx} {W : WX} {K : PySem.W.Frag} {σ : St} {H : Hp} {e c : Expr} {we : WE} {wt : WT} {pos : Pos} {st : Stmt} {rest A B : List Stmt} {u v : WS}
def sNext : WS := fun f ρ cs => f.nx ρ cs
def sSeq (u v : WS) : WS := fun f ρ cs => u { f with nx := fun ρ' cs' => v f ρ' cs' } ρ cs
theorem dss_nil : DSs X W [] sNext := PSs.imp pss_nil fun E σ H ⟨F, cs, ρ, f, s, re, hw, pe⟩ => pe.nx H cs σ ρ s re hw
theorem dss_cons (h1 : DS X W st u) (h2 : DSs X W rest v) : DSs X W (st :: rest) (sSeq u v) := PSs.imp (pss_cons h1 h2) fun E σ H h => by
  obtain ⟨F, cs, ρ, f, s, re, hw, pe⟩ := h
  exact ⟨F, cs, ρ, _, s, re, hw, ⟨fun H1 cs1 σ1 ρ1 s1 re1 h1 => ⟨F, cs1, ρ1, f, s1.self, re1, h1, pe.le s1.gr⟩, pe.bk, pe.ct, pe.rt, pe.ex⟩⟩
theorem dss_one (h1 : DS X W st u) : DSs X W [st] u := PSs.imp (pss_one h1) fun E σ H h => h
def sBreak : WS := fun f ρ cs => f.bk ρ cs
def sCont : WS := fun f ρ cs => f.ct ρ cs
theorem PostS.px {F G : Hp} {f : Fin} {E : Ends} {ρ : Env} (pe : PostS K F G W f E) (re : RepE K G σ ρ) : PostX K F G (fun x cs => f.ex x ρ cs) fun c d H' => W c d σ H' :=
  fun H' cs' x d s r h => pe.ex H' cs' σ ρ x d s (re.mono s.gr) r h
def sDrop (we : WE) : WS := fun f ρ cs => we ρ cs (fun _ cs1 => f.nx ρ cs1) (fun x cs1 => f.ex x ρ cs1)
theorem ds_expr (he : DE X W e we) (hs : swapsWith e none pos.line X.env = pure false := by rfl) : DS X W (.Expr e pos) (sDrop we) := PS.imp (ps_expr he hs) fun E σ H h => by
  obtain ⟨F, cs, ρ, f, s, re, hw, pe⟩ := h
  exact ⟨F, cs, ρ, _, _, s, re, hw, fun H1 cs1 v d s1 r1 h1 => pe.nx H1 cs1 σ ρ s1 (re.mono s1.gr) h1, pe.px re⟩ in
#guard_msgs (pass all) in open Nat
def sRet (we : WE) : WS := fun f ρ cs => we ρ cs f.rt (fun x cs1 => f.ex x ρ cs1)
theorem ds_ret (he : DE X W e we) : DS X W (.Return (some e) pos) (sRet we) := PS.imp (ps_ret he) fun E σ H h => by
  obtain ⟨F, cs, ρ, f, s, re, hw, pe⟩ := h
  exact ⟨F, cs, ρ, _, _, s, re, hw, fun H1 cs1 v d s1 r1 h1 => pe.rt H1 cs1 v d s1 r1 h1, pe.px re⟩
def sRetN : WS := fun f _ cs => f.rt .non cs
def sIf (wt : WT) (u v : WS) : WS := fun f ρ cs => wt ρ cs (fun k cs1 => (k = true → u f ρ cs1) ∧ (k = false → v f ρ cs1)) (fun x cs1 => f.ex x ρ cs1)
theorem ds_if (hc : DT X W c wt) (ha : DSs X W A u) (hb : DSs X W B v) : DS X W (.If c A B pos) (sIf wt u v) := PS.imp (ps_if hc ha hb) fun E σ H h => by
  obtain ⟨F, cs, ρ, f, s, re, hw, pe⟩ := h
  refine ⟨F, cs, ρ, _, _, s, re, hw, fun H1 cs1 k s1 h1 => ?_, pe.px re⟩
  cases k with
  | true => exact iteT ⟨F, cs1, ρ, f, s1.self, re.mono s1.gr, h1.1 rfl, pe.le s1.gr⟩
  | false => exact iteF ⟨F, cs1, ρ, f, s1.self, re.mono s1.gr, h1.2 rfl, pe.le s1.gr⟩ in
#guard_msgs (pass all) in open Nat
abbrev WG := D → Env → (Env → Prop) → Prop
abbrev WGs := List D → Env → (Env → Prop) → Prop
def lG (K : PySem.W.Frag) (g : WG) : TG := fun v σ H Q => ∃ F cs ρ d k, Sta K F (pur F cs H) cs H ∧ RepE K (pur F cs H) σ ρ ∧ Rep K (pur F cs H) v d ∧ g d ρ k ∧ ∀ σ' ρ' H', Sta K F (pur F cs H) cs H' → RepE K (pur F cs H') σ' ρ' → k ρ' → Q σ' H'
def lGs (K : PySem.W.Frag) (g : WGs) : TGs := fun v σ H Q => ∃ F cs ρ d k, Sta K F (pur F cs H) cs H ∧ RepE K (pur F cs H) σ ρ ∧ RepL K (pur F cs H) v d ∧ g d ρ k ∧ ∀ σ' ρ' H', Sta K F (pur F cs H) cs H' → RepE K (pur F cs H') σ' ρ' → k ρ' → Q σ' H'
abbrev DG (X : Cx) (tg : Expr) (g : WG) : Prop := PG X tg (lG X.K g)
abbrev DGs (X : Cx) (tg : List Expr) (g : WGs) : Prop := PGs X tg (lGs X.K g)
theorem PG.imp {X : Cx} {e : Expr} {t t' : TG} (h : PG X e t) (i : ∀ v σ H Q, t' v σ H Q → t v σ H Q) : PG X e t' := ⟨fun pins s σ H v u Q I r q => h.run pins s σ H v u Q I r (i v σ H Q q)⟩
theorem PGs.imp {X : Cx} {e : List Expr} {t t' : TGs} (h : PGs X e t) (i : ∀ v σ H Q, t' v σ H Q → t v σ H Q) : PGs X e t' := ⟨fun pins s σ H v u Q I r q => h.run pins s σ H v u Q I r (i v σ H Q q)⟩
def gN (i : Nat) : WG := fun d ρ k => k (ρ.set i (some d))
theorem dg_name {i : Nat} {x : Str} (hN : X.N.Nodup) (hi : X.N[i]? = some x) (hx : Loc X.env.scope x) (hf : X.fn x = true ∨ X.env.scope.names.lookup x = some .local := by first | exact .inl rfl | exact .inr rfl | assumption) : DG X (.Name x pos) (gN i) :=
  PG.imp (pg_name hN hi hx hf) fun v σ H Q ⟨F, cs, ρ, d, k, s, re, r, hw, q⟩ => q _ _ H s (re.set r i) hw in
#guard_msgs (pass all) in open Nat
def gNl : WGs := fun ds ρ k => match ds with
  | [] => k ρ
  | _ => False
def gCn (g : WG) (gs : WGs) : WGs := fun ds ρ k => match ds with
  | d :: r => g d ρ fun ρ' => gs r ρ' k
  | [] => False
theorem dgs_nil : DGs X [] gNl := PGs.imp pgs_nil fun v σ H Q h => by
  obtain ⟨F, cs, ρ, d, k, s, re, r, hw, q⟩ := h
  cases r with
  | nil => exact ⟨rfl, q σ ρ H s re hw⟩
  | cons _ _ => exact hw.elim
theorem dgs_cons {es : List Expr} {g : WG} {gs : WGs} (h1 : DG X e g) (h2 : DGs X es gs) (hs : (assignEach (e :: es) X.env).map (·.2) = assign e X.env :: (assignEach es X.env).map (·.2) := by rfl) : DGs X (e :: es) (gCn g gs) := PGs.imp (pgs_cons h1 h2 hs) fun v σ H Q h => by
  obtain ⟨F, cs, ρ, d, k, s, re, r, hw, q⟩ := h
  cases r with
  | nil => exact hw.elim
  | cons r1 r2 => exact ⟨_, _, rfl, F, cs, ρ, _, _, s, re, r1, hw, fun σ1 ρ1 H1 s1 re1 h1 => ⟨F, cs, ρ1, _, k, s1.self, re1, r2.mono s1.gr, h1, fun σ2 ρ2 H2 s2 re2 h2 => q σ2 ρ2 H2 (s2.from_ s1.gr) re2 h2⟩⟩ in
#guard_msgs (pass all) in open Nat
/-- (a, b, ..) = a tuple of that length -/
def gT (n : Nat) (gs : WGs) : WG := fun d ρ k => match d with
  | .tup ds => ds.length = n ∧ gs ds ρ k
  | _ => False
theorem dg_tup {es : List Expr} {kk : Nat} {gs : WGs} {n : Nat} (hc : X.calm = true) (h : DGs X es gs) (hn : (assignEach es X.env).length = n := by rfl) (hst : (assignEach es X.env).findIdx? (·.1) = none := by rfl) : DG X (.Tuple es kk pos) (gT n gs) :=
  PG.imp (pg_tup hc h hn hst) fun v σ H Q hq => by
    obtain ⟨F, cs, ρ, d, k, s, re, r, hw, q⟩ := hq
    cases d <;> try exact hw.elim
    cases r with
    | tup h r => exact ⟨_, _, rfl, ex_t pur_le h, by rw [r.length]; exact hw.1, F, cs, ρ, _, k, s, re, r, hw.2, q⟩ in
#guard_msgs (pass all) in open Nat
def sAsg (we : WE) (g : WG) : WS := fun f ρ cs => we ρ cs (fun d cs1 => g d ρ fun ρ' => f.nx ρ' cs1) (fun x cs1 => f.ex x ρ cs1)
theorem asg_ok {g : WG} {E : Ends} : lS K W (sAsg we g) E σ H → tAsg (lE K W we) (lG K g) E σ H := by
  rintro ⟨F, cs, ρ, f, s, re, hw, pe⟩
  exact ⟨F, cs, ρ, _, _, s, re, hw, fun H1 cs1 v d s1 r1 h1 => ⟨F, cs1, ρ, d, _, s1.self, re.mono s1.gr, r1, h1, fun σ2 ρ2 H2 s2 re2 h2 => pe.nx H2 cs1 σ2 ρ2 (s2.from_ s1.gr) re2 h2⟩, pe.px re⟩ in
#guard_msgs (pass all) in open Nat
theorem asgN_ok {i : Nat} {E : Ends} : lS K W (sAsg we (gN i)) E σ H → tAsg (lE K W we) (gName i) E σ H := by
  rintro ⟨F, cs, ρ, f, s, re, hw, pe⟩
  exact ⟨F, cs, ρ, _, _, s, re, hw, fun H1 cs1 v d s1 r1 h1 => pe.nx H1 cs1 _ _ s1 ((re.mono s1.gr).set r1 i) h1, pe.px re⟩ in
#guard_msgs (pass all) in open Nat
theorem ds_set {i : Nat} {x : Str} {pos' : Pos} (hN : X.N.Nodup) (hi : X.N[i]? = some x) (hx : Loc X.env.scope x) (he : DE X W e we) (hs : swapsWith e (some (.Name x pos')) pos.line X.env = pure false := by rfl)
    (hf : X.fn x = true ∨ X.env.scope.names.lookup x = some .local := by first | exact .inl rfl | exact .inr rfl | assumption) : DS X W (.Assign [.Name x pos'] e pos) (sAsg we (gN i)) :=
  PS.imp (ps_set (i := i) hN hi hx he hs hf) fun _ _ _ h => asgN_ok h in
#guard_msgs (pass all) in open Nat
theorem ds_asg {tg : Expr} {g : WG} (he : DE X W e we) (hg : DG X tg g) (hs : swapsWithSole [tg] e pos.line X.env = pure false := by rfl) (hw : swappedStores [tg] e X.env = pure none := by rfl)
    (h1 : (assignEach [tg] X.env).map (·.2) = [assign tg X.env] := by rfl) : DS X W (.Assign [tg] e pos) (sAsg we g) := PS.imp (ps_asg he hg hs hw h1) fun _ _ _ h => asg_ok h in
#guard_msgs (pass all) in open Nat
def sPar (i j : Nat) (w : WA) : WS := fun f ρ cs => w ρ cs (fun ds cs1 => match ds with
  | [x, y] => f.nx ((ρ.set i (some x)).set j (some y)) cs1
  | _ => False) (fun x cs1 => f.ex x ρ cs1)
theorem par_inv {ds : List D} {g : D → D → Prop} (h : (match ds with | [x, y] => g x y | _ => False)) : ∃ x y, ds = [x, y] ∧ g x y := by
  match ds, h with
  | [x, y], h => exact ⟨x, y, rfl, h⟩ in
#guard_msgs (pass all) in open Nat
theorem ds_par {i j : Nat} {x y : Str} {a b : Expr} {w : WA} {px py pt : Pos} {kt k2 pt2} (hc : X.calm = true) (hN : X.N.Nodup) (hi : X.N[i]? = some x) (hj : X.N[j]? = some y) (hij : i ≠ j)
    (hx : X.env.scope.names.lookup x = some .local) (hy : X.env.scope.names.lookup y = some .local) (ha : DA X W [a, b] w)
    (hw : swappedStores [.Tuple [.Name x px, .Name y py] kt pt] (.Tuple [a, b] k2 pt2) X.env = pure (some [x, y]) := by rfl)
    (hs : swapsWithSole [.Tuple [.Name x px, .Name y py] kt pt] (.Tuple [a, b] k2 pt2) pos.line X.env = pure false := by rfl) :
    DS X W (.Assign [.Tuple [.Name x px, .Name y py] kt pt] (.Tuple [a, b] k2 pt2) pos) (sPar i j w) := PS.imp (ps_par hc hN hi hj hij hx hy ha hw hs) fun E σ H h => by
  obtain ⟨F, cs, ρ, f, s, re, hw, pe⟩ := h
  refine ⟨F, cs, ρ, _, _, s, re, hw, fun H1 cs1 vs ds s1 r1 l1 h1 => ?_, pe.px re⟩
  obtain ⟨dx, dy, rfl, h⟩ := par_inv h1
  cases r1 with
  | cons r1 r2 =>
    cases r2 with
    | cons r2 r3 =>
      cases r3
      exact ⟨_, _, rfl, pe.nx H1 cs1 _ _ s1 (((re.mono s1.gr).set r1 i).set r2 j) h⟩ in
#guard_msgs (pass all) in open Nat
/-- name op= e of ints -/
def sAug (i : Nat) (o : DO2) (we : WE) : WS := fun f ρ cs => match ρ[i]? with
  | some (some x) => we ρ cs (fun y cs1 => o x y cs1 fun z cs2 => f.nx (ρ.set i (some z)) cs2) (fun x cs1 => f.ex x ρ cs1)
  | _ => False
/-- I: by a number that falls -/
def sWhile (wt : WT) (wb : WS) : WS := fun f ρ cs => ∃ I : Nat → Env → Cs → Prop, (∃ m, I m ρ cs) ∧ ∀ m ρ cs, I m ρ cs →
  wt ρ cs (fun k cs1 => (k = true → wb { f with nx := fun ρ' cs' => ∃ m', m' < m ∧ I m' ρ' cs', ct := fun ρ' cs' => ∃ m', m' < m ∧ I m' ρ' cs', bk := f.nx } ρ cs1) ∧ (k = false → f.nx ρ cs1)) (fun x cs1 => f.ex x ρ cs1)
theorem ds_while {body : List Stmt} {wb : WS} (hp : PassesOwn (model X.prog X.w) X.A X.env X.xe) (hc : DT X W c wt) (hb : DSs X W body wb) : DS X W (.While c body [] pos) (sWhile wt wb) := PS.imp (ps_while hp hc hb) fun E σ H h => by
  obtain ⟨F, cs, ρ, f, s, re, ⟨I, ⟨m0, i0⟩, turn⟩, pe⟩ := h
  refine ⟨fun m σ' H' => ∃ cs' ρ', Sta X.K F (pur F cs H) cs' H' ∧ RepE X.K (pur F cs' H') σ' ρ' ∧ I m ρ' cs', ⟨m0, cs, ρ, s, re, i0⟩, fun m σ1 H1 ⟨cs1, ρ1, s1, re1, i1⟩ => ?_⟩
  refine ⟨F, cs1, ρ1, _, _, s1.self, re1, turn m ρ1 cs1 i1, fun H2 cs2 k s2 h2 => ?_, (pe.le s1.gr).px re1⟩
  cases k with
  | true =>
    refine iteT ⟨fun σ' H' => ∃ m', m' < m ∧ ∃ cs' ρ', Sta X.K F (pur F cs H) cs' H' ∧ RepE X.K (pur F cs' H') σ' ρ' ∧ I m' ρ' cs', fun σ' H' ⟨m', hm, z⟩ => ⟨m', hm, z⟩, ?_⟩
    have pe2 := pe.le (s1.gr.trans s2.gr)
    exact ⟨F, cs2, ρ1, _, s2.self, re1.mono s2.gr, h2.1 rfl, ⟨fun H3 cs3 σ3 ρ3 s3 re3 ⟨m', hm, z⟩ => ⟨m', hm, cs3, ρ3, s3.from_ (s1.gr.trans s2.gr), re3, z⟩, fun H3 cs3 σ3 ρ3 s3 re3 z => pe2.nx H3 cs3 σ3 ρ3 s3 re3 z,
      fun H3 cs3 σ3 ρ3 s3 re3 ⟨m', hm, z⟩ => ⟨m', hm, cs3, ρ3, s3.from_ (s1.gr.trans s2.gr), re3, z⟩, pe2.rt, pe2.ex⟩⟩
  | false => exact iteF (pe.nx H2 cs2 σ1 ρ1 (s2.from_ s1.gr) (re1.mono s2.gr) (h2.2 rfl)) in
#guard_msgs (pass all) in open Nat
/-- J yields xs as long as the data stand -/
structure YI (K : PySem.W.Frag) (J : It) (G : Hp) (xs : List D) : Prop where
  go : ∀ i d, xs[i]? = some d → ∀ F cs H, Sta K F G cs H → J.go i H
  yld : ∀ i d, xs[i]? = some d → ∀ F cs H x H', Sta K F G cs H → J.yld i H x H' → Sta K F (pur F cs H) cs H' ∧ Rep K (pur F cs H') x d
  stop : ∀ F cs H, Sta K F G cs H → J.stop xs.length H
abbrev WI := Env → Cs → (List D → Cs → Prop) → XZ → Prop
def lI (K : PySem.W.Frag) (W : WX) (w : WI) : TI := fun σ H R => ∃ F cs ρ P Z, Sta K F (pur F cs H) cs H ∧ RepE K (pur F cs H) σ ρ ∧ w ρ cs P Z ∧ (∀ H' cs' J xs, Sta K F (pur F cs H) cs' H' → YI K J (pur F cs' H') xs → P xs cs' → R J H') ∧ PostX K F (pur F cs H) Z fun c d H' => W c d σ H'
abbrev DI (X : Cx) (W : WX) (tg it : Expr) (w : WI) : Prop := PI X tg it (lI X.K W w)
theorem PI.imp {X : Cx} {tg e : Expr} {t t' : TI} (h : PI X tg e t) (i : ∀ σ H Q, t' σ H Q → t σ H Q) : PI X tg e t' := ⟨fun pins s σ H Q I q => h.run pins s σ H Q I (i σ H Q q)⟩
def loopW (g : WG) (wb : WS) (f : Fin) : List D → Env → Cs → Prop
  | [], ρ, cs => f.nx ρ cs
  | d :: r, ρ, cs => g d ρ fun ρ1 => wb { f with nx := fun ρ' cs' => loopW g wb f r ρ' cs', ct := fun ρ' cs' => loopW g wb f r ρ' cs', bk := f.nx } ρ1 cs
def sFor (wi : WI) (g : WG) (wb : WS) : WS := fun f ρ cs => wi ρ cs (fun xs cs1 => loopW g wb f xs ρ cs1) (fun x cs1 => f.ex x ρ cs1)
theorem drop_cons {α : Type} {xs : List α} {i : Nat} {d : α} {r : List α} (h : xs.drop i = d :: r) : xs[i]? = some d ∧ xs.drop (i + 1) = r := by
  refine ⟨?_, ?_⟩
  · have e : (xs.drop i)[0]? = some d := by rw [h] <;> rfl
    rw [List.getElem?_drop] at e
    simpa using e
  · have e : (xs.drop i).drop 1 = r := by rw [h] <;> rfl
    rw [List.drop_drop] at e
    exact e in
#guard_msgs (pass all) in open Nat
theorem ds_for {tg iter : Expr} {body : List Stmt} {wi : WI} {g : WG} {wb : WS} (hp : PassesOwn (model X.prog X.w) X.A X.env X.xe) (hc : X.calm = true) (hi : DI X W tg iter wi) (hg : DG X tg g) (hb : DSs X W body wb)
    (hs : ∀ x, foldedSetIterable iter X.env x = pure x := by intro _; rfl) : DS X W (.For tg iter body [] pos) (sFor wi g wb) := PS.imp (ps_for hp hc hi hg hb hs) fun E σ H h => by
  obtain ⟨F, cs, ρ, f, s, re, hw, pe⟩ := h
  refine ⟨F, cs, ρ, _, _, s, re, hw, fun H1 cs1 J xs s1 yi h1 => ?_, pe.px re⟩
  refine ⟨fun i m σ' H' => i ≤ xs.length ∧ m = xs.length - i ∧ ∃ cs' ρ', Sta X.K F (pur F cs1 H1) cs' H' ∧ RepE X.K (pur F cs' H') σ' ρ' ∧ loopW g wb f (xs.drop i) ρ' cs', ⟨xs.length, Nat.zero_le _, rfl, cs1, ρ, s1.self, re.mono s1.gr, h1⟩, ?_⟩
  rintro i m σ2 H2 ⟨hi, rfl, cs2, ρ2, s2, re2, h2⟩
  cases e : xs.drop i with
  | nil =>
    have hl : xs.length ≤ i := by
      have z := congrArg List.length e
      rw [List.length_drop] at z
      have z' : xs.length - i = 0 := z
      omega
    have hie : i = xs.length := by omega
    rw [e] at h2
    refine .inl ⟨?_, pe.nx H2 cs2 σ2 ρ2 (s2.from_ s1.gr) re2 h2⟩
    rw [hie]
    exact yi.stop F cs2 H2 s2
  | cons d r =>
    obtain ⟨e1, e2⟩ := drop_cons e
    have hlt : i < xs.length := (List.getElem?_eq_some_iff.mp e1).1
    rw [e] at h2
    refine .inr ⟨yi.go i d e1 F cs2 H2 s2, fun σ' H' => ∃ cs' ρ', Sta X.K F (pur F cs1 H1) cs' H' ∧ RepE X.K (pur F cs' H') σ' ρ' ∧ loopW g wb f r ρ' cs', ?_, ?_⟩
    · rintro σ' H' ⟨cs', ρ', s', re', h'⟩
      exact ⟨xs.length - (i + 1), by omega, by omega, rfl, cs', ρ', s', re', by rw [e2]; exact h'⟩
    · intro x H3 hy
      obtain ⟨s3, r3⟩ := yi.yld i d e1 F cs2 H2 x H3 s2 hy
      have g3 := s2.gr.trans s3.gr
      have pe3 := pe.le (s1.gr.trans g3)
      refine ⟨F, cs2, ρ2, d, _, s3.self, re2.mono s3.gr, r3, h2, fun σ4 ρ4 H4 s4 re4 h4 => ?_⟩
      have g4 := g3.trans s4.gr
      have pe4 := pe.le (s1.gr.trans g4)
      exact ⟨F, cs2, ρ4, _, s4.self, re4, h4, ⟨fun H5 cs5 σ5 ρ5 s5 re5 h5 => ⟨cs5, ρ5, s5.from_ g4, re5, h5⟩, fun H5 cs5 σ5 ρ5 s5 re5 h5 => pe4.nx H5 cs5 σ5 ρ5 s5 re5 h5,
        fun H5 cs5 σ5 ρ5 s5 re5 h5 => ⟨cs5, ρ5, s5.from_ g4, re5, h5⟩, pe4.rt, pe4.ex⟩⟩ in
#guard_msgs (pass all) in open Nat
def iSeq (we : WE) : WI := fun ρ cs P Z => we ρ cs (fun d cs1 => match d with
  | .lst xs => P xs cs1
  | _ => False) Z
def iTupD (we : WE) : WI := fun ρ cs P Z => we ρ cs (fun d cs1 => match d with
  | .tup xs => P xs cs1
  | _ => False) Z
theorem yi_list {G : Hp} {a : Addr} {xs : List V} {ds : List D} (h : SqL K G a xs) (r : RepL K G xs ds) : YI K (Itl K a) G ds where
  go := fun i d e F cs H s => by
    obtain ⟨v, e1, _⟩ := r.get e
    exact ⟨xs, v, ex_l (s.gr.trans pur_le) h, e1⟩
  yld := fun i d e F cs H x H' s hy => by
    obtain ⟨e1, e2⟩ := hy
    obtain ⟨v, e3, rv⟩ := r.get e
    have e4 := e2 xs (ex_l (s.gr.trans pur_le) h)
    rw [e3] at e4
    cases e4
    subst e1
    exact ⟨s.self, rv.mono s.gr⟩
  stop := fun F cs H s => ⟨xs, ex_l (s.gr.trans pur_le) h, by rw [r.length]; exact Nat.le_refl _⟩ in
#guard_msgs (pass all) in open Nat
theorem yi_tup {G : Hp} {a : Addr} {xs : List V} {ds : List D} (h : SqT K G a xs) (r : RepL K G xs ds) : YI K (Itt K a) G ds where
  go := fun i d e F cs H s => by
    obtain ⟨v, e1, _⟩ := r.get e
    exact ⟨xs, v, ex_t (s.gr.trans pur_le) h, e1⟩
  yld := fun i d e F cs H x H' s hy => by
    obtain ⟨e1, e2⟩ := hy
    obtain ⟨v, e3, rv⟩ := r.get e
    have e4 := e2 xs (ex_t (s.gr.trans pur_le) h)
    rw [e3] at e4
    cases e4
    subst e1
    exact ⟨s.self, rv.mono s.gr⟩
  stop := fun F cs H s => ⟨xs, ex_t (s.gr.trans pur_le) h, by rw [r.length]; exact Nat.le_refl _⟩ in
#guard_msgs (pass all) in open Nat
theorem di_list {tg : Expr} (h : DE X W e we) : DI X W tg e (iSeq we) := PI.imp (pi_list h) fun σ H R hq => by
  obtain ⟨F, cs, ρ, P, Z, s, re, hw, pe, px⟩ := hq
  refine ⟨F, cs, ρ, _, Z, s, re, hw, fun H1 cs1 v d s1 r1 h1 => ?_, px⟩
  cases d <;> try exact h1.elim
  cases r1 with
  | lst h r => exact ⟨_, rfl, ⟨_, ex_l pur_le h⟩, pe H1 cs1 _ _ s1 (yi_list h r) h1⟩
theorem di_tup {tg : Expr} (h : DE X W e we) : DI X W tg e (iTupD we) := PI.imp (pi_tup h) fun σ H R hq => by
  obtain ⟨F, cs, ρ, P, Z, s, re, hw, pe, px⟩ := hq
  refine ⟨F, cs, ρ, _, Z, s, re, hw, fun H1 cs1 v d s1 r1 h1 => ?_, px⟩
  cases d <;> try exact h1.elim
  cases r1 with
  | tup h r => exact ⟨_, rfl, ⟨_, ex_t pur_le h⟩, pe H1 cs1 _ _ s1 (yi_tup h r) h1⟩
def rngD (lo : Int) (n : Nat) : List D := (List.range n).map fun (i : Nat) => D.int (lo + (i : Int))
theorem yi_range (G : Hp) (lo : Int) (n : Nat) : YI K (Itr lo n) G (rngD lo n) where
  go := fun i d e F cs H s => by
    have z := (List.getElem?_eq_some_iff.mp e).1
    have z2 : i < n := by simpa [rngD] using z
    exact z2
  yld := fun i d e F cs H x H' s hy => by
    obtain ⟨e1, e2⟩ := hy
    subst e1 e2
    obtain ⟨hi, e3⟩ := List.getElem?_eq_some_iff.mp e
    simp [rngD] at e3
    rw [← e3]
    exact ⟨s.self, .int _⟩
  stop := fun F cs H s => by
    have z : n ≤ (rngD lo n).length := by simp [rngD]
    exact z in
#guard_msgs (pass all) in open Nat
def iRg1 (w : WA) : WI := fun ρ cs P Z => w ρ cs (fun ds cs1 => match ds with
  | [.int j] => (-(2 ^ 62) ≤ j ∧ j < 2 ^ 62) ∧ P (rngD 0 j.toNat) cs1
  | _ => False) Z
def iRg2 (w : WA) : WI := fun ρ cs P Z => w ρ cs (fun ds cs1 => match ds with
  | [.int i, .int j] => (-(2 ^ 62) ≤ i ∧ i < 2 ^ 62 ∧ -(2 ^ 62) ≤ j ∧ j < 2 ^ 62) ∧ P (rngD i (j - i).toNat) cs1
  | _ => False) Z
theorem int1_inv {ds : List D} {g : Int → Prop} (h : (match ds with | [D.int j] => g j | _ => False)) : ∃ j, ds = [.int j] ∧ g j := by
  match ds, h with
  | [D.int j], h => exact ⟨j, rfl, h⟩ in
#guard_msgs (pass all) in open Nat
theorem int2_inv {ds : List D} {g : Int → Int → Prop} (h : (match ds with | [D.int i, D.int j] => g i j | _ => False)) : ∃ i j, ds = [.int i, .int j] ∧ g i j := by
  match ds, h with
  | [D.int i, D.int j], h => exact ⟨i, j, rfl, h⟩ in
#guard_msgs (pass all) in open Nat
theorem di_range1 {tg a : Expr} {w : WA} {p : Pos} (hg : Gl X "range") (hm : X.mg "range" = none) (ha : DA X W [a] w) (hs : starEach [a] X.env = [(false, eval a X.env)] := by rfl) : DI X W tg (.Call (.Name "range" p) [a] [] pos) (iRg1 w) :=
  PI.imp (pi_range1 hg hm ha hs) fun σ H R hq => by
    obtain ⟨F, cs, ρ, P, Z, s, re, hw, pe, px⟩ := hq
    refine ⟨F, cs, ρ, _, Z, s, re, hw, fun H1 cs1 vs ds s1 r1 l1 h1 => ?_, px⟩
    obtain ⟨j, rfl, ⟨h2, h3⟩, h⟩ := int1_inv h1
    cases r1 with
    | cons r1 r2 => cases r1; cases r2; exact ⟨j, rfl, h2, h3, pe H1 cs1 _ _ s1 (yi_range _ 0 _) h⟩ in
#guard_msgs (pass all) in open Nat
theorem di_range2 {tg a b : Expr} {w : WA} {p : Pos} (hg : Gl X "range") (hm : X.mg "range" = none) (ha : DA X W [a, b] w) (hs : starEach [a, b] X.env = [(false, eval a X.env), (false, eval b X.env)] := by rfl) (hs2 : starEach [b] X.env = [(false, eval b X.env)] := by rfl) :
    DI X W tg (.Call (.Name "range" p) [a, b] [] pos) (iRg2 w) := PI.imp (pi_range2 hg hm ha hs hs2) fun σ H R hq => by
    obtain ⟨F, cs, ρ, P, Z, s, re, hw, pe, px⟩ := hq
    refine ⟨F, cs, ρ, _, Z, s, re, hw, fun H1 cs1 vs ds s1 r1 l1 h1 => ?_, px⟩
    obtain ⟨i, j, rfl, h2, h⟩ := int2_inv h1
    cases r1 with
    | cons r1 r2 =>
      cases r2 with
      | cons r2 r3 => cases r1; cases r2; cases r3; exact ⟨i, j, rfl, h2, pe H1 cs1 _ _ s1 (yi_range _ i _) h⟩ in
#guard_msgs (pass all) in open Nat
end
end DL
namespace DL
open PySem PySem.Spec PyProof.Rows L2
abbrev DSp := List D → Cs → DP → XZ → Prop
def spL (K : PySem.W.Frag) (n : Nat) (sp : DSp) : Sp := fun vs H Q E => ∃ F cs ds P Z, Sta K F (pur F cs H) cs H ∧ RepL K (pur F cs H) vs ds ∧ ds.length = n ∧ sp ds cs P Z ∧ PostE K F (pur F cs H) P Q ∧ PostX K F (pur F cs H) Z E
theorem spL_len {K : PySem.W.Frag} {n : Nat} {sp : DSp} : ∀ vs H Q E, spL K n sp vs H Q E → vs.length = n := fun vs H Q E ⟨F, cs, ds, P, Z, s, r, l, _⟩ => r.length.trans l
section
variable {X : Cx} {W : WX} {K : PySem.W.Frag} {σ : L2.St} {H : Hp} {CX : CXT} {k n : Nat} {f : Addr} {fd : FuncData} {ps : List Str} {sp : DSp} {x : Str} {p pos : Pos} {e : Expr} {es : List Expr} {w : WA} {dvs : List V} {dds : List D} {ds : List Value}
def wCall (sp : DSp) (dds : List D) (w : WA) : WE := fun ρ cs P Z => w ρ cs (fun ds cs1 => sp (ds ++ dds) cs1 P Z) Z
theorem RepL.const {dvs : List V} {dds : List D} (h : ∀ G, RepL K G dvs dds) {G : Hp} {vs : List V} {ds : List D} (r : RepL K G vs ds) : RepL K G (vs ++ dvs) (ds ++ dds) := r.append (h G)
theorem call_ok {m : Nat} (hd : ∀ G, RepL K G dvs dds) (hn : m + dds.length = n) {Q : VK} : lE K W (wCall sp dds w) σ H Q → tCallSD (spL K n sp) dvs (L2.WE W) (lA K W m w) σ H Q := by
  rintro ⟨F, cs, ρ, P, Z, s, re, hw, pe, px⟩
  refine ⟨F, cs, ρ, _, Z, s, re, hw, fun H1 cs1 vs ds s1 r1 l1 h1 => ?_, px⟩
  exact ⟨F, cs1, _, P, Z, s1.self, RepL.const hd r1, by rw [List.length_append, l1]; exact hn, h1, pe.le s1.gr, px.le s1.gr⟩ in
#guard_msgs (pass all) in open Nat
/-- f(e, ..), the defaults dds behind -/
theorem d_call (F : FnOk X.prog X.w X.K X.mg X.base (L2.CX X.prog X.w) k f fd ps (spL X.K n sp)) (hr : Room k X.A) (hg : Gl X x) (hm : X.mg x = some (.ref f)) (hk : PySem.W.keepIn X.K (.ref f) = true) (hb : Binds X.K fd ps ds) (hd : Vals dvs ds) (hdd : ∀ G, RepL X.K G dvs dds) (tk : Takes X W)
    (ha : DA X W (e :: es) w) (hn : (e :: es).length + dds.length = n := by rfl) (hdb : (x == ("__debug__" : Str)) = false := by decide) (he : starEach (e :: es) X.env = (false, eval e X.env) :: starEach es X.env := by rfl) (hpl : (backTo pos (starEach es X.env)).any (·.1) = false := by rfl) :
    DE X W (.Call (.Name x p) (e :: es) [] pos) (wCall sp dds w) :=
  PE.imp (pe_callSD (E := L2.WE W) F hr hg hm hk hb hd (fun σ => passAt tk σ) ha hdb he hpl) fun _ _ _ h => call_ok hdd hn h in
#guard_msgs (pass all) in open Nat
theorem d_callN (F : FnOk X.prog X.w X.K X.mg X.base (L2.CX X.prog X.w) k f fd ps (spL X.K n sp)) (hr : Room k X.A) (hg : Gl X x) (hm : X.mg x = some (.ref f)) (hk : PySem.W.keepIn X.K (.ref f) = true) (hb : Binds X.K fd ps []) (tk : Takes X W)
    (ha : DA X W (e :: es) w) (hn : (e :: es).length = n := by rfl) (hdb : (x == ("__debug__" : Str)) = false := by decide) (he : starEach (e :: es) X.env = (false, eval e X.env) :: starEach es X.env := by rfl) (hpl : (backTo pos (starEach es X.env)).any (·.1) = false := by rfl) :
    DE X W (.Call (.Name x p) (e :: es) [] pos) (wCall sp [] w) := d_call (dds := []) F hr hg hm hk hb .nil (fun _ => .nil) tk ha hn hdb he hpl in
#guard_msgs (pass all) in open Nat
end
section
variable {P : Program} {w : World} {K : PySem.W.Frag} {mg : Str → Option Value} {base : Heap} {x qual : Str} {params : Arguments} {body : List Stmt} {scope : Scope} {dvs : List V} {kws : List (Str × V)} {f : Addr} {fd : FuncData}
def startD (N : List Str) (ds : List D) : Env := ds.map some ++ List.replicate (N.length - ds.length) none
/-- the end of a body -/
abbrev finD (P : DP) (Z : XZ) : Fin := { nx := fun _ cs => P .non cs, rt := P, ex := fun x _ cs => Z x cs }
abbrev cxD (P : Program) (w : World) (K : PySem.W.Frag) (mg : Str → Option Value) (base : Heap) (N : List Str) (qual : Str) (scope : Scope) (f : Addr) (cdv : Value) (A : Around) (outer : List PySem.Env) (s : Shared) (H : Hp) (E : XK) : Cx :=
  cxOf (L2.CX P w) P w K mg base N qual scope f cdv A outer s H E
theorem ok_def {N ps : List Str} {k : Nat} {sp : DSp} (F : FunD K x qual params body scope dvs kws f fd) (S : FnScope N ps scope) {u : WS}
    (hb : ∀ (cdv : Value) (A : Around) (outer : List PySem.Env) (s : Shared) (H : Hp) (E : XK), Room k (A.deeper (envOfC qual scope s.heap.objs.size f cdv)) → DSs (cxD P w K mg base N qual scope f cdv A outer s H E) (fun cls d _ H => E cls d H) body u)
    (hsp : ∀ ds cs Q Z, sp ds cs Q Z → ds.length = ps.length → u (finD Q Z) (startD N ds) cs) : FnOk P w K mg base (L2.CX P w) (k + 1) f fd ps (spL K ps.length sp) := by
  refine F.ok S spL_len fun cdv A outer s H vs Q E hr h => ?_
  obtain ⟨F, cs, ds, Pd, Z, st, r, l, hs, pe, px⟩ := h
  refine ⟨_, hb cdv A outer s H E hr, F, cs, startD N ds, finD Pd Z, st, ?_, hsp ds cs Pd Z hs l, ⟨fun H' cs' σ' ρ' s' _ h' => pe H' cs' .non .non s' .non h', fun _ _ _ _ _ _ h => h.elim, fun _ _ _ _ _ _ h => h.elim, pe, fun H' cs' σ' ρ' x d s' _ r' h' => px H' cs' x d s' r' h'⟩⟩
  unfold startD L2.start
  rw [r.length]
  exact RepE.start _ r in
#guard_msgs (pass all) in open Nat
end
theorem takesD {P : Program} {w : World} {K : PySem.W.Frag} {mg : Str → Option Value} {base : Heap} {N : List Str} {qual : Str} {scope : Scope} {f : Addr} {cdv : Value} {A : Around} {outer : List PySem.Env} {s : Shared} {H : Hp} {E : XK} :
    Takes (cxD P w K mg base N qual scope f cdv A outer s H E) (fun cls d _ H => E cls d H) := takes_of rfl rfl rfl rfl
theorem passD {P : Program} {w : World} {K : PySem.W.Frag} {mg : Str → Option Value} {base : Heap} {N : List Str} {qual : Str} {scope : Scope} {f : Addr} {cdv : Value} {A : Around} {outer : List PySem.Env} {s : Shared} {H : Hp} {E : XK} :
    PassesOwn (model P w) (cxD P w K mg base N qual scope f cdv A outer s H E).A (cxD P w K mg base N qual scope f cdv A outer s H E).env (cxD P w K mg base N qual scope f cdv A outer s H E).xe :=
  passes_of (X := cxD P w K mg base N qual scope f cdv A outer s H E) rfl in
#guard_msgs (pass all) in open Nat
section
variable {X : Cx} {W : WX} {K : PySem.W.Frag} {σ : L2.St} {H : Hp} {pos : Pos} {a b e : Expr} {wa wb : WE}
abbrev DSet := D → D → D → Cs → (Cs → Prop) → Prop
def oSetL : DSet := fun o i v cs Q => match o, i with
  | .opq (.ref p), .int k => (match look p cs with
    | some (.lst ds) => (match ixN ds.length k with
      | some j => Q (put p (.lst (ds.set j v)) cs)
      | none => False)
    | _ => False)
  | _, _ => False
/-- o[i] = v -/
def sSetIx (wv wo wi : WE) (o : DSet) : WS := fun f ρ cs => wv ρ cs (fun v cs1 => wo ρ cs1 (fun x cs2 => wi ρ cs2 (fun i cs3 => o x i v cs3 fun cs4 => f.nx ρ cs4) (fun x cs1 => f.ex x ρ cs1)) (fun x cs1 => f.ex x ρ cs1)) (fun x cs1 => f.ex x ρ cs1)
theorem setL_inv {o i v : D} {cs : Cs} {Q : Cs → Prop} (h : oSetL o i v cs Q) : ∃ p k ds j, o = .opq (.ref p) ∧ i = .int k ∧ look p cs = some (.lst ds) ∧ ixN ds.length k = some j ∧ Q (put p (.lst (ds.set j v)) cs) := by
  unfold oSetL at h
  split at h
  · split at h
    · rename_i e
      split at h
      · rename_i e2
        exact ⟨_, _, _, _, rfl, rfl, e, e2, h⟩
      · exact h.elim
    · exact h.elim
  · exact h.elim in
#guard_msgs (pass all) in open Nat
theorem lst_at {K : PySem.W.Frag} {F G0 H : Hp} {cs : Cs} {p : Addr} {ds : List D} (s : Sta K F G0 cs H) (h : look p cs = some (.lst ds)) : ∃ vs, H p = some (.lst vs) ∧ RepL K (pur F cs H) vs ds := by
  obtain ⟨o, e, q⟩ := s.look h
  cases o <;> first | exact ⟨_, e, q⟩ | exact q.elim in
#guard_msgs (pass all) in open Nat
theorem ds_setix {o i v : Expr} {wo wi wv : WE} {p1 : Pos} (hv : DE X W v wv) (ho : DE X W o wo) (hi : DE X W i wi)
    (ha : ∀ u, assign (.Subscript o i p1) X.env u = (do
      let ov ← holding [u] (eval o X.env)
      let iv ← holding [u, ov] (eval i X.env)
      standAt p1
      holding [u, ov, iv] (setItem ov iv u)
      release [u, ov, iv] []) := by intro _; rfl)
    (hs : swapsWithSole [.Subscript o i p1] v pos.line X.env = pure false := by rfl) (hw : swappedStores [.Subscript o i p1] v X.env = pure none := by rfl) (h1 : (assignEach [.Subscript o i p1] X.env).map (·.2) = [assign (.Subscript o i p1) X.env] := by rfl) :
    DS X W (.Assign [.Subscript o i p1] v pos) (sSetIx wv wo wi oSetL) := PS.imp (ps_asg hv (pg_sub ho hi set_list ha) hs hw h1) fun E σ H h => by
  obtain ⟨F, cs, ρ, f, s, re, hw, pe⟩ := h
  refine ⟨F, cs, ρ, _, _, s, re, hw, fun H1 cs1 y dy s1 r1 h1 => ?_, pe.px re⟩
  refine ⟨F, cs1, ρ, _, _, s1.self, re.mono s1.gr, h1, fun H2 cs2 x dx s2 r2 h2 => ?_, (pe.le s1.gr).px (re.mono s1.gr)⟩
  refine ⟨F, cs2, ρ, _, _, s2.self, re.mono (s1.gr.trans s2.gr), h2, fun H3 cs3 z dz s3 r3 h3 => ?_, (pe.le (s1.gr.trans s2.gr)).px (re.mono (s1.gr.trans s2.gr))⟩
  obtain ⟨p, k, ds, j, rfl, rfl, hl, hj, h⟩ := setL_inv h3
  obtain ⟨vs, e, rl⟩ := lst_at s3 hl
  cases r2
  cases r3
  have s4 := s3.put hl (m' := .lst (ds.set j dy)) (o' := .lst (vs.set j y)) (rl.set (r1.mono (s2.gr.trans s3.gr)) j)
  refine ⟨p, vs, k, j, rfl, rfl, e, by rw [rl.length]; exact hj, ?_⟩
  have g := (s1.gr.trans s2.gr).trans s3.gr
  exact pe.nx _ _ σ ρ (s4.from_ g) (re.mono (g.trans s4.gr)) h in
#guard_msgs (pass all) in open Nat
/-- the i-th item of the changing list at p; len of it -/
def oIxM : DO2 := fun x y cs P => match x, y with
  | .opq (.ref p), .int i => (match look p cs with
    | some (.lst ds) => (match atD ds i with
      | some d => P d cs
      | none => False)
    | _ => False)
  | _, _ => False
theorem adq_ixM : Adq K (rIx K) oIxM := fun F cs H x y dx dy P Q s rx ry ho pe => by
  unfold oIxM at ho
  split at ho
  · split at ho
    · rename_i e
      split at ho
      · rename_i d e2
        cases rx
        cases ry
        obtain ⟨vs, e3, rl⟩ := lst_at s e
        obtain ⟨v, e4, rv⟩ := rl.atI e2
        exact .inl ⟨_, _, _, v, rfl, rfl, SqL.of e3, e4, pe H cs _ _ s rv ho⟩
      · exact ho.elim
    · exact ho.elim
  · exact ho.elim in
#guard_msgs (pass all) in open Nat
theorem d_ixM (ha : DE X W a wa) (hb : DE X W b wb) (hs : PlainIx b := by intro _ _; rfl) : DE X W (.Subscript a b pos) (wOp oIxM wa wb) := d_ix ix_seq adq_ixM ha hb hs in
#guard_msgs (pass all) in open Nat
/-- methods of lists that change -/
abbrev DMt := D → List D → Cs → DP → Prop
def oAppend : DMt := fun x ds cs P => match x, ds with
  | .opq (.ref p), [d] => (match look p cs with
    | some (.lst xs) => xs.length < 100000 ∧ P .non (put p (.lst (xs ++ [d])) cs)
    | _ => False)
  | _, _ => False
theorem append_inv {x : D} {ds : List D} {cs : Cs} {P : DP} (h : oAppend x ds cs P) : ∃ p d xs, x = .opq (.ref p) ∧ ds = [d] ∧ look p cs = some (.lst xs) ∧ xs.length < 100000 ∧ P .non (put p (.lst (xs ++ [d])) cs) := by
  unfold oAppend at h
  split at h
  · split at h
    · rename_i e
      exact ⟨_, _, _, rfl, rfl, e, h.1, h.2⟩
    · exact h.elim
  · exact h.elim in
#guard_msgs (pass all) in open Nat
end
end DL
namespace DL
open PySem L2
def dR (r : Rat) : D := .tup [.int r.num, .int (r.den : Int)]
theorem dR_inj {r s : Rat} (h : dR r = dR s) : r = s := by
  unfold dR at h
  simp at h
  exact Rat.ext h.1 (Int.ofNat_inj.mp h.2) in
#guard_msgs (pass all) in open Nat
theorem eqD_int (i j : Int) : eqD (.int i) (.int j) = decide (i = j) := by
  unfold eqD
  rw [Bool.beq_eq_decide_eq]
theorem eqD_dR (r s : Rat) : eqD (dR r) (dR s) = decide (r = s) := by
  unfold dR
  simp only [eqD, eqL, Bool.and_true]
  rw [Bool.beq_eq_decide_eq, Bool.beq_eq_decide_eq, ← Bool.decide_and]
  have e : (r.num = s.num ∧ (r.den : Int) = (s.den : Int)) ↔ r = s := ⟨fun h => Rat.ext h.1 (Int.ofNat_inj.mp h.2), fun h => by rw [h]; exact ⟨rfl, rfl⟩⟩
  exact decide_eq_decide.mpr e in
#guard_msgs (pass all) in open Nat
/-- both numbers below 2 ^ n -/
def Sz (n : Nat) (r : Rat) : Prop := r.num.natAbs < 2 ^ n ∧ r.den < 2 ^ n
theorem Sz.mono {n m : Nat} {r : Rat} (h : Sz n r) (l : n ≤ m) : Sz m r :=
  ⟨Nat.lt_of_lt_of_le h.1 (Nat.pow_le_pow_right (by decide) l), Nat.lt_of_lt_of_le h.2 (Nat.pow_le_pow_right (by decide) l)⟩
theorem mulOk_of {i j : Int} {a b : Nat} (ha : i.natAbs < 2 ^ a) (hb : j.natAbs < 2 ^ b) (h : a + b ≤ 900000) : IntMulOk i j := by
  have ha' : i.natAbs < 2 ^ (a + 1) := Nat.lt_of_lt_of_le ha (Nat.pow_le_pow_right (by decide) (Nat.le_succ _))
  have hb' : j.natAbs < 2 ^ (b + 1) := Nat.lt_of_lt_of_le hb (Nat.pow_le_pow_right (by decide) (Nat.le_succ _))
  exact CMulW.ok (wide_mul ha' hb' (Nat.succ_pos _) (Nat.succ_pos _) (by omega)) in
#guard_msgs (pass all) in open Nat
theorem mulOk_r {i j : Int} (h : j.natAbs < 2 ^ 64) : IntMulOk i j := CMul.ok (Or.inr (by omega))
theorem mulOk_l {i j : Int} (h : i.natAbs < 2 ^ 64) : IntMulOk i j := CMul.ok (Or.inl (by omega))
theorem gcd_pos {a b : Nat} (h : 0 < b) : 0 < Nat.gcd a b := Nat.gcd_pos_of_pos_right a h
/-- what part reckons -/
theorem part_pos (a b : Int) (h : 0 < b) : a / (Nat.gcd a.natAbs b.natAbs : Nat) = (Rat.divInt a b).num ∧ b / (Nat.gcd a.natAbs b.natAbs : Nat) = ((Rat.divInt a b).den : Int) := by
  have e : (Int.gcd b a) = Nat.gcd a.natAbs b.natAbs := by rw [Int.gcd, Nat.gcd_comm]
  constructor
  · rw [Rat.num_divInt, Int.sign_eq_one_of_pos h, Int.one_mul, e]
  · rw [Rat.den_divInt, if_neg (by omega), e]
    have : (b.natAbs : Int) = b := by omega
    rw [Int.natCast_ediv, this] in
#guard_msgs (pass all) in open Nat
theorem part_neg (a b : Int) : Rat.divInt (-a) (-b) = Rat.divInt a b := Rat.neg_divInt_neg a b
theorem divInt_add (x y : Rat) : Rat.divInt (x.num * y.den + y.num * x.den) ((x.den : Int) * y.den) = x + y := by
  rw [Rat.add_def', ← Int.natCast_mul, Rat.divInt_ofNat] in
#guard_msgs (pass all) in open Nat
theorem divInt_mul (x y : Rat) : Rat.divInt (x.num * y.num) ((x.den : Int) * y.den) = x * y := by
  rw [Rat.mul_def', ← Int.natCast_mul, Rat.divInt_ofNat] in
#guard_msgs (pass all) in open Nat
theorem divInt_div (x y : Rat) : Rat.divInt (x.num * y.den) ((x.den : Int) * y.num) = x / y := by
  rw [Rat.div_def, Rat.inv_def, ← Rat.divInt_mul_divInt, Rat.num_divInt_den] in
#guard_msgs (pass all) in open Nat
theorem den_ne (x : Rat) : (x.den : Int) ≠ 0 := by have := x.den_nz; omega
theorem den_pos (x : Rat) : (0 : Int) < x.den := by have := x.den_nz; omega
theorem gcd_ok {a b : Nat} (hb : 0 < b) (h : b < 2 ^ 9000) : (0 : Int) < (Nat.gcd a b : Int) ∧ (Nat.gcd a b : Int).natAbs.log2 < 9000 := by
  refine ⟨by have := gcd_pos (a := a) hb; omega, ?_⟩
  refine PySem.Flt.log2_lt_of (by decide) ?_
  rw [Int.natAbs_natCast]
  exact Nat.lt_of_le_of_lt (Nat.gcd_le_right _ hb) h in
#guard_msgs (pass all) in open Nat
theorem abs_nat (a : Int) : (if a < 0 then -a else a) = (a.natAbs : Int) := by
  split <;> omega
theorem Sz.divInt {a b : Int} {n m : Nat} (h0 : b ≠ 0) (ha : a.natAbs < 2 ^ n) (hb : b.natAbs < 2 ^ m) (hn : n ≤ m) : Sz m (Rat.divInt a b) := by
  have ha' : a.natAbs < 2 ^ m := Nat.lt_of_lt_of_le ha (Nat.pow_le_pow_right (by decide) hn)
  constructor
  · rw [Rat.num_divInt]
    refine Nat.lt_of_le_of_lt ?_ ha'
    refine Nat.le_trans (Int.natAbs_ediv_le_natAbs _ _) ?_
    rw [Int.natAbs_mul]
    have : b.sign.natAbs ≤ 1 := by
      rcases Int.lt_trichotomy b 0 with h | h | h
      · rw [Int.sign_eq_neg_one_of_neg h]; decide
      · exact absurd h h0
      · rw [Int.sign_eq_one_of_pos h]; decide
    exact Nat.le_trans (Nat.mul_le_mul_right _ this) (by omega)
  · rw [Rat.den_divInt, if_neg h0]
    exact Nat.lt_of_le_of_lt (Nat.div_le_self _ _) hb in
#guard_msgs (pass all) in open Nat
theorem lt_mul2 {a b n m : Nat} (ha : a < 2 ^ n) (hb : b < 2 ^ m) : a * b < 2 ^ (n + m) := by
  rw [Nat.pow_add]
  exact Nat.mul_lt_mul'' ha hb in
#guard_msgs (pass all) in open Nat
theorem lt_add2 {a b n : Nat} (ha : a < 2 ^ n) (hb : b < 2 ^ n) : a + b < 2 ^ (n + 1) := by
  rw [Nat.pow_succ]; omega
theorem Sz.add {n m : Nat} {x y : Rat} (hx : Sz n x) (hy : Sz m y) : Sz (n + m + 1) (x + y) := by
  rw [← divInt_add]
  refine Sz.divInt (n := n + m + 1) (Int.mul_ne_zero (den_ne x) (den_ne y)) ?_ ?_ (Nat.le_refl _)
  · refine Nat.lt_of_le_of_lt (Int.natAbs_add_le _ _) ?_
    refine lt_add2 ?_ ?_
    · rw [Int.natAbs_mul]; exact lt_mul2 hx.1 hy.2
    · rw [Int.natAbs_mul, Nat.add_comm]; exact lt_mul2 hy.1 hx.2
  · rw [Int.natAbs_mul]
    exact Nat.lt_of_lt_of_le (lt_mul2 hx.2 hy.2) (Nat.pow_le_pow_right (by decide) (Nat.le_succ _)) in
#guard_msgs (pass all) in open Nat
theorem Sz.neg {n : Nat} {x : Rat} (hx : Sz n x) : Sz n (-x) := ⟨by rw [Rat.neg_num, Int.natAbs_neg]; exact hx.1, by rw [Rat.neg_den]; exact hx.2⟩
theorem Sz.sub {n m : Nat} {x y : Rat} (hx : Sz n x) (hy : Sz m y) : Sz (n + m + 1) (x - y) := by
  rw [Rat.sub_eq_add_neg]; exact hx.add hy.neg in
#guard_msgs (pass all) in open Nat
theorem Sz.mul {n m : Nat} {x y : Rat} (hx : Sz n x) (hy : Sz m y) : Sz (n + m) (x * y) := by
  rw [← divInt_mul]
  refine Sz.divInt (n := n + m) (Int.mul_ne_zero (den_ne x) (den_ne y)) ?_ ?_ (Nat.le_refl _)
  · rw [Int.natAbs_mul]; exact lt_mul2 hx.1 hy.1
  · rw [Int.natAbs_mul]; exact lt_mul2 hx.2 hy.2 in
#guard_msgs (pass all) in open Nat
theorem Sz.div {n m : Nat} {x y : Rat} (hx : Sz n x) (hy : Sz m y) (h : y ≠ 0) : Sz (n + m) (x / y) := by
  rw [← divInt_div]
  refine Sz.divInt (n := n + m) (Int.mul_ne_zero (den_ne x) (fun z => h (Rat.num_eq_zero.mp z))) ?_ ?_ (Nat.le_refl _)
  · rw [Int.natAbs_mul]; exact lt_mul2 hx.1 hy.2
  · rw [Int.natAbs_mul]; exact lt_mul2 hx.2 hy.1 in
#guard_msgs (pass all) in open Nat
theorem Sz.nd {n m : Nat} {x y : Rat} (hx : Sz n x) (hy : Sz m y) (h : n + m ≤ 900000 := by decide) : IntMulOk x.num (y.den : Int) := mulOk_of hx.1 (by rw [Int.natAbs_natCast]; exact hy.2) h in
#guard_msgs (pass all) in open Nat
theorem Sz.dn {n m : Nat} {x y : Rat} (hx : Sz n x) (hy : Sz m y) (h : n + m ≤ 900000 := by decide) : IntMulOk (x.den : Int) y.num := mulOk_of (by rw [Int.natAbs_natCast]; exact hx.2) hy.1 h in
#guard_msgs (pass all) in open Nat
/-- the greater of x by y and y by x -/
def shapeR (x y : Rat) : Rat := if x < y then y / x else x / y
theorem Sz.shape {n m : Nat} {x y : Rat} (hx : Sz n x) (hy : Sz m y) (x0 : 0 < x) (y0 : 0 < y) : Sz (n + m) (shapeR x y) := by
  unfold shapeR
  split
  · rw [Nat.add_comm]; exact hy.div hx (Rat.ne_of_gt x0)
  · exact hx.div hy (Rat.ne_of_gt y0) in
#guard_msgs (pass all) in open Nat
end DL
namespace DL
open PySem PySem.Spec PyProof.Rows L2
section
variable {X : Cx} {W : WX} {K : PySem.W.Frag} {σ : L2.St} {H : Hp} {pos : Pos} {a b e : Expr} {es : List Expr} {wa wb we : DL.WE} {w : WA} {name : Str} {apos cpos : Pos} {T id : String}
def AdqM (K : PySem.W.Frag) (T : String) (r : V → List V → Hp → VK → Prop) (o : DMt) : Prop := ∀ F cs H x xs dx ds P Q, Sta K F (pur F cs H) cs H → Rep K (pur F cs H) x dx → RepL K (pur F cs H) xs ds → o dx ds cs P → PostE K F (pur F cs H) P Q → r x xs H Q
def isL (d : D) (cs : Cs) : Prop := match d with
  | .lst _ => True
  | .opq (.ref p) => (match look p cs with
    | some (.lst _) => True
    | _ => False)
  | _ => False
theorem isL_ty {F : Hp} {cs : Cs} {x : V} {dx : D} (s : Sta K F (pur F cs H) cs H) (r : Rep K (pur F cs H) x dx) (h : isL dx cs) : tyV K "list" x H := by
  unfold isL at h
  split at h
  · cases r with
    | lst h r => exact .inl ⟨rfl, _, ex_l pur_le h⟩
  · split at h
    · rename_i e
      obtain ⟨vs, e2, _⟩ := lst_at s e
      cases r
      exact .inl ⟨rfl, _, SqL.of e2⟩
    · exact h.elim
  · exact h.elim in
#guard_msgs (pass all) in open Nat
def wMtL (o : DMt) (wo : DL.WE) (w : WA) : DL.WE := fun ρ cs P Z => wo ρ cs (fun x cs1 => isL x cs1 ∧ w ρ cs1 (fun ds cs2 => o x ds cs2 P) Z) Z
theorem d_bmL {r : V → List V → Hp → VK → Prop} {o : DMt} (slot : Slot "list" name id) (hty : typeOf (.builtin id) = pure (.type "method_descriptor")) (hm : MtR X id r) (adq : AdqM X.K "list" r o) (ho : DE X W a wa) (ha : DA X W (e :: es) w)
    (hbase : attributeBase a name X.env (eval a X.env) = eval a X.env := by rfl)
    (hfew : ((backTo cpos (starEach (e :: es) X.env)).all (fun x => !x.1) && (backToKw cpos (keywordEach [] X.env)).all (fun x => x.1.isSome)
      && decide ((e :: es).length + ([] : List Keyword).length + (if ([] : List Keyword).isEmpty then 0 else 1) < 30)) = true := by rfl)
    (hline : (apos.endLine == cpos.line) = true := by rfl) (hs : starEach (e :: es) X.env = (false, eval e X.env) :: starEach es X.env := by rfl) (hplain : (backTo cpos (starEach es X.env)).any (·.1) = false := by rfl) :
    DE X W (.Call (.Attribute a name apos) (e :: es) [] cpos) (wMtL o wa w) := PE.imp (pe_bm PySem.F.plainAttrs_list slot hty hm ho ha hbase hfew hline hs hplain) fun σ H Q h => by
  obtain ⟨F, cs, ρ, P, Z, s, re, hw, pe, px⟩ := h
  refine ⟨F, cs, ρ, _, Z, s, re, hw, fun H1 cs1 x dx s1 r1 h1 => ⟨isL_ty s1.self r1 h1.1, ?_⟩, px⟩
  refine ⟨F, cs1, ρ, _, Z, s1.self, re.mono s1.gr, h1.2, fun H2 cs2 vs ds s2 r2 l2 h2 => ?_, px.le s1.gr⟩
  exact adq F cs2 H2 x vs dx ds P Q s2.self (r1.mono s2.gr) r2 h2 (pe.le (s1.gr.trans s2.gr)) in
#guard_msgs (pass all) in open Nat
def wMtL0 (o : DMt) (wo : DL.WE) : DL.WE := fun ρ cs P Z => wo ρ cs (fun x cs1 => isL x cs1 ∧ o x [] cs1 P) Z
theorem d_bmL0 {r : V → List V → Hp → VK → Prop} {o : DMt} (slot : Slot "list" name id) (hty : typeOf (.builtin id) = pure (.type "method_descriptor")) (hm : MtR X id r) (adq : AdqM X.K "list" r o) (ho : DE X W a wa)
    (hbase : attributeBase a name X.env (eval a X.env) = eval a X.env := by rfl) (hline : (apos.endLine == cpos.line) = true := by rfl) :
    DE X W (.Call (.Attribute a name apos) [] [] cpos) (wMtL0 o wa) := PE.imp (pe_bm0 PySem.F.plainAttrs_list slot hty hm ho hbase hline) fun σ H Q h => by
  obtain ⟨F, cs, ρ, P, Z, s, re, hw, pe, px⟩ := h
  exact ⟨F, cs, ρ, _, Z, s, re, hw, fun H1 cs1 x dx s1 r1 h1 => ⟨isL_ty s1.self r1 h1.1, adq F cs1 H1 x [] dx [] P Q s1.self r1 .nil h1.2 (pe.le s1.gr)⟩, px⟩ in
#guard_msgs (pass all) in open Nat
theorem adq_append : AdqM K "list" rAppend oAppend := fun F cs H x xs dx ds P Q s rx rl ho pe => by
  obtain ⟨p, d, ys, rfl, rfl, hl, hz, h⟩ := append_inv ho
  obtain ⟨vs, e, rv⟩ := lst_at s hl
  cases rx
  cases rl with
  | cons r1 r2 =>
    cases r2
    have s4 := s.put hl (m' := .lst (ys ++ [d])) (o' := .lst (vs ++ [_])) (rv.append (.cons r1 .nil))
    exact ⟨p, vs, _, rfl, rfl, e, by rw [rv.length]; exact Nat.lt_of_lt_of_le hz (by decide), pe _ _ _ _ s4 .non h⟩ in
#guard_msgs (pass all) in open Nat
theorem d_append (ho : DE X W a wa) (ha : DA X W [e] w) (hbase : attributeBase a "append" X.env (eval a X.env) = eval a X.env := by rfl)
    (hfew : ((backTo cpos (starEach [e] X.env)).all (fun x => !x.1) && (backToKw cpos (keywordEach [] X.env)).all (fun x => x.1.isSome)
      && decide ([e].length + ([] : List Keyword).length + (if ([] : List Keyword).isEmpty then 0 else 1) < 30)) = true := by rfl)
    (hline : (apos.endLine == cpos.line) = true := by rfl) (hs : starEach [e] X.env = (false, eval e X.env) :: starEach [] X.env := by rfl) (hplain : (backTo cpos (starEach [] X.env)).any (·.1) = false := by rfl) :
    DE X W (.Call (.Attribute a "append" apos) [e] [] cpos) (wMtL oAppend wa w) := d_bmL PySem.F.slot_list_append PySem.F.type_list_append mt_append adq_append ho ha hbase hfew hline hs hplain in
#guard_msgs (pass all) in open Nat
def oPop : DMt := fun x ds cs P => match x, ds with
  | .opq (.ref p), [] => (match look p cs with
    | some (.lst xs) => (match xs[xs.length - 1]? with
      | some d => P d (put p (.lst xs.dropLast) cs)
      | none => False)
    | _ => False)
  | _, _ => False
theorem adq_pop : AdqM K "list" rPop oPop := fun F cs H x xs dx ds P Q s rx rl ho pe => by
  unfold oPop at ho
  split at ho
  · split at ho
    · rename_i hl
      split at ho
      · rename_i d e1
        obtain ⟨vs, e, rv⟩ := lst_at s hl
        cases rx
        cases rl
        obtain ⟨v, e2, r2⟩ := rv.get e1
        have s4 := s.put hl (m' := .lst (List.dropLast _)) (o' := .lst (vs.dropLast)) rv.dropLast
        exact ⟨_, vs, v, rfl, rfl, e, by rw [rv.length]; exact e2, pe _ _ _ _ s4 (r2.mono s4.gr) ho⟩
      · exact ho.elim
    · exact ho.elim
  · exact ho.elim in
#guard_msgs (pass all) in open Nat
theorem d_pop (ho : DE X W a wa) (hbase : attributeBase a "pop" X.env (eval a X.env) = eval a X.env := by rfl) (hline : (apos.endLine == cpos.line) = true := by rfl) :
    DE X W (.Call (.Attribute a "pop" apos) [] [] cpos) (wMtL0 oPop wa) := d_bmL0 PySem.F.slot_list_pop PySem.F.type_list_pop mt_pop adq_pop ho hbase hline in
#guard_msgs (pass all) in open Nat
def cntD (xs : List D) (d : D) : Nat := xs.countP fun y => eqD y d
def oCount : DMt := fun x ds cs P => match x, ds with
  | .lst xs, [d] => plL 20 xs = true ∧ plD 20 d = true ∧ P (.int (cntD xs d : Int)) cs
  | _, _ => False
end
end DL
namespace DL
open PySem PySem.Spec PyProof.Rows L2
section
variable {ρ : DL.Env} {cs : Cs} {P : DP} {Z : XZ} {wa wb we wo wi wv : DL.WE} {w : WA} {ta tb : WT} {u v : WS} {f : Fin} {Q : Bool → Cs → Prop} {d x y : D} {i j : Nat} {PA : List D → Cs → Prop}
section
variable {nx bk ct : DL.Env → Cs → Prop} {rt : D → Cs → Prop} {ex : Exn → DL.Env → Cs → Prop}
theorem r_seq (h : u ⟨fun ρ' cs' => v ⟨nx, rt, ex, bk, ct⟩ ρ' cs', rt, ex, bk, ct⟩ ρ cs) : sSeq u v ⟨nx, rt, ex, bk, ct⟩ ρ cs := h
theorem r_key (N : DL.Env → Cs → Prop) (h1 : ∀ ρ' cs', N ρ' cs' → v ⟨nx, rt, ex, bk, ct⟩ ρ' cs') (h2 : ∀ nx' : DL.Env → Cs → Prop, (∀ ρ' cs', N ρ' cs' → nx' ρ' cs') → u ⟨nx', rt, ex, bk, ct⟩ ρ cs) : sSeq u v ⟨nx, rt, ex, bk, ct⟩ ρ cs := h2 _ h1
end
theorem r_loop {g : WG} {wb : WS} (I : Nat → DL.Env → Cs → Prop) : ∀ (xs : List D) (k : Nat) {ρ : DL.Env} {cs : Cs}, I k ρ cs →
    (∀ i d ρ cs (N : DL.Env → Cs → Prop), xs[i]? = some d → I (k + i) ρ cs → (∀ ρ' cs', I (k + i + 1) ρ' cs' → N ρ' cs') → g d ρ fun ρ1 => wb { f with nx := N, ct := N, bk := f.nx } ρ1 cs) →
    (∀ ρ cs, I (k + xs.length) ρ cs → f.nx ρ cs) → loopW g wb f xs ρ cs
  | [], k, ρ, cs, h0, hs, hd => hd ρ cs h0
  | d :: r, k, ρ, cs, h0, hs, hd => by
    refine hs 0 d ρ cs _ rfl h0 fun ρ' cs' h1 => r_loop I r (k + 1) h1 (fun i d ρ cs N e hi hn => ?_) (fun ρ cs h => ?_)
    · have e1 : k + (i + 1) = k + 1 + i := by omega
      refine hs (i + 1) d ρ cs N e (by rw [e1]; exact hi) fun ρ' cs' hh => hn ρ' cs' (by rw [← e1]; exact hh)
    · refine hd ρ cs ?_
      have e1 : k + (d :: r).length = k + 1 + r.length := by rw [List.length_cons]; omega
      rw [e1]; exact h in
#guard_msgs (pass all) in open Nat
theorem r_loop0 {nx bk ct : DL.Env → Cs → Prop} {rt : D → Cs → Prop} {ex : Exn → DL.Env → Cs → Prop} {g : WG} {wb : WS} (I : Nat → DL.Env → Cs → Prop) {xs : List D} (h0 : I 0 ρ cs)
    (hs : ∀ i d ρ cs (N : DL.Env → Cs → Prop), xs[i]? = some d → I i ρ cs → (∀ ρ' cs', I (i + 1) ρ' cs' → N ρ' cs') → g d ρ fun ρ1 => wb ⟨N, rt, ex, nx, N⟩ ρ1 cs)
    (hd : ∀ ρ cs, I xs.length ρ cs → nx ρ cs) : loopW g wb ⟨nx, rt, ex, bk, ct⟩ xs ρ cs :=
  r_loop I xs 0 h0 (fun i d ρ cs N e hi hn => hs i d ρ cs N e (by rw [Nat.zero_add] at hi; exact hi) (by rw [Nat.zero_add] at hn; exact hn)) (fun ρ cs h => hd ρ cs (by rw [Nat.zero_add] at h; exact h)) in
#guard_msgs (pass all) in open Nat
theorem r_while {nx bk ct : DL.Env → Cs → Prop} {rt : D → Cs → Prop} {ex : Exn → DL.Env → Cs → Prop} {wt : WT} {wb : WS} (I : Nat → DL.Env → Cs → Prop) (h0 : ∃ m, I m ρ cs)
    (hs : ∀ m ρ cs (N : DL.Env → Cs → Prop), I m ρ cs → (∀ m' ρ' cs', m' < m → I m' ρ' cs' → N ρ' cs') → wt ρ cs (fun k cs1 => (k = true → wb ⟨N, rt, ex, nx, N⟩ ρ cs1) ∧ (k = false → nx ρ cs1)) (fun x cs1 => ex x ρ cs1)) :
    sWhile wt wb ⟨nx, rt, ex, bk, ct⟩ ρ cs := ⟨I, h0, fun m ρ cs h => hs m ρ cs _ h fun m' ρ' cs' hm hi => ⟨m', hm, hi⟩⟩ in
#guard_msgs (pass all) in open Nat
theorem r_gN {k : DL.Env → Prop} (h : k (ρ.set i (some d))) : gN i d ρ k := h
theorem r_gT {n : Nat} {gs : WGs} {ds : List D} {k : DL.Env → Prop} (hn : ds.length = n) (h : gs ds ρ k) : gT n gs (.tup ds) ρ k := ⟨hn, h⟩
theorem r_gCn {g : WG} {gs : WGs} {ds : List D} {k : DL.Env → Prop} (h : g d ρ fun ρ' => gs ds ρ' k) : gCn g gs (d :: ds) ρ k := h
theorem r_gNl {k : DL.Env → Prop} (h : k ρ) : gNl [] ρ k := h
theorem rng_len (lo : Int) (n : Nat) : (rngD lo n).length = n := by simp [rngD]
theorem r_kT {A B : Prop} (h : A) : (true = true → A) ∧ (true = false → B) := ⟨fun _ => h, fun z => absurd z (by decide)⟩
theorem r_nT {A B : Prop} (h : B) : ((!true) = true → A) ∧ ((!true) = false → B) := ⟨fun z => absurd z (by decide), fun _ => h⟩
theorem r_nF {A B : Prop} (h : A) : ((!false) = true → A) ∧ ((!false) = false → B) := ⟨fun _ => h, fun z => absurd z (by decide)⟩
theorem r_kF {A B : Prop} (h : B) : (false = true → A) ∧ (false = false → B) := ⟨fun z => absurd z (by decide), fun _ => h⟩
section
variable {nx bk ct : DL.Env → Cs → Prop} {rt : D → Cs → Prop} {ex : Exn → DL.Env → Cs → Prop}
theorem r_nx (h : nx ρ cs) : Fin.nx ⟨nx, rt, ex, bk, ct⟩ ρ cs := h
theorem r_rt (h : rt d cs) : Fin.rt ⟨nx, rt, ex, bk, ct⟩ d cs := h
theorem r_bk (h : bk ρ cs) : Fin.bk ⟨nx, rt, ex, bk, ct⟩ ρ cs := h
theorem r_cn (h : ct ρ cs) : Fin.ct ⟨nx, rt, ex, bk, ct⟩ ρ cs := h
end
theorem r_next (h : f.nx ρ cs) : sNext f ρ cs := h
theorem r_ret (h : we ρ cs f.rt (fun x cs1 => f.ex x ρ cs1)) : sRet we f ρ cs := h
theorem r_retN (h : f.rt .non cs) : sRetN f ρ cs := h
theorem r_drop (h : we ρ cs (fun _ cs1 => f.nx ρ cs1) (fun x cs1 => f.ex x ρ cs1)) : sDrop we f ρ cs := h
theorem r_brk (h : f.bk ρ cs) : sBreak f ρ cs := h
theorem r_ct (h : f.ct ρ cs) : sCont f ρ cs := h
theorem r_sif (h : ta ρ cs (fun k cs1 => (k = true → u f ρ cs1) ∧ (k = false → v f ρ cs1)) (fun x cs1 => f.ex x ρ cs1)) : sIf ta u v f ρ cs := h
theorem r_set (h : we ρ cs (fun d cs1 => f.nx (ρ.set i (some d)) cs1) (fun x cs1 => f.ex x ρ cs1)) : sAsg we (gN i) f ρ cs := h
theorem r_asg {g : WG} (h : we ρ cs (fun d cs1 => g d ρ fun ρ' => f.nx ρ' cs1) (fun x cs1 => f.ex x ρ cs1)) : sAsg we g f ρ cs := h
theorem r_par (h : wa ρ cs (fun x cs1 => wb ρ cs1 (fun y cs2 => f.nx ((ρ.set i (some x)).set j (some y)) cs2) (fun x cs1 => f.ex x ρ cs1)) (fun x cs1 => f.ex x ρ cs1)) : sPar i j (wCons wa (wCons wb wNil)) f ρ cs := h
theorem r_setix (h : wv ρ cs (fun v cs1 => wo ρ cs1 (fun x cs2 => wi ρ cs2 (fun i cs3 => oSetL x i v cs3 fun cs4 => f.nx ρ cs4) (fun x cs1 => f.ex x ρ cs1)) (fun x cs1 => f.ex x ρ cs1)) (fun x cs1 => f.ex x ρ cs1)) : sSetIx wv wo wi oSetL f ρ cs := h
theorem r_aug {o : DO2} (hi : ρ[i]? = some (some x)) (h : we ρ cs (fun y cs1 => o x y cs1 fun z cs2 => f.nx (ρ.set i (some z)) cs2) (fun x cs1 => f.ex x ρ cs1)) : sAug i o we f ρ cs := by
  unfold sAug; rw [hi]; exact h in
#guard_msgs (pass all) in open Nat
theorem r_for {wi : WI} {g : WG} (h : wi ρ cs (fun xs cs1 => loopW g u f xs ρ cs1) (fun x cs1 => f.ex x ρ cs1)) : sFor wi g u f ρ cs := h
theorem r_var (hi : ρ[i]? = some (some d)) (h : P d cs) : wVar i ρ cs P Z := by
  unfold wVar; rw [hi]; exact h
theorem r_c (h : P d cs) : wC d ρ cs P Z := h
theorem r_op {o : DO2} (h : wa ρ cs (fun x cs1 => wb ρ cs1 (fun y cs2 => o x y cs2 P) Z) Z) : wOp o wa wb ρ cs P Z := h
theorem r_un {o : D → Cs → DP → Prop} (h : wa ρ cs (fun x cs1 => o x cs1 P) Z) : wUn o wa ρ cs P Z := h
theorem r_test (h : wa ρ cs (fun x cs1 => match x with | .bl k => Q k cs1 | _ => False) Z) : wTest wa ρ cs Q Z := h
theorem r_and (h : ta ρ cs (fun k cs1 => (k = true → tb ρ cs1 Q Z) ∧ (k = false → Q false cs1)) Z) : wAnd ta tb ρ cs Q Z := h
theorem r_or (h : ta ρ cs (fun k cs1 => (k = true → Q true cs1) ∧ (k = false → tb ρ cs1 Q Z)) Z) : wOr ta tb ρ cs Q Z := h
theorem r_not (h : ta ρ cs (fun k cs1 => Q (!k) cs1) Z) : wNot ta ρ cs Q Z := h
theorem r_if (h : ta ρ cs (fun k cs1 => (k = true → wa ρ cs1 P Z) ∧ (k = false → wb ρ cs1 P Z)) Z) : wIf ta wa wb ρ cs P Z := h
theorem r_andV (h : wa ρ cs (fun x cs1 => match x with | .bl k => (k = true → wb ρ cs1 P Z) ∧ (k = false → P (.bl false) cs1) | _ => False) Z) : wAndV wa wb ρ cs P Z := h
theorem r_orV (h : wa ρ cs (fun x cs1 => match x with | .bl k => (k = true → P (.bl true) cs1) ∧ (k = false → wb ρ cs1 P Z) | _ => False) Z) : wOrV wa wb ρ cs P Z := h
theorem r_notV (h : wa ρ cs (fun x cs1 => match x with | .bl k => P (.bl (!k)) cs1 | _ => False) Z) : wNotV wa ρ cs P Z := h
theorem r_nil (h : PA [] cs) : wNil ρ cs PA Z := h
theorem r_cons (h : we ρ cs (fun x cs1 => w ρ cs1 (fun xs cs2 => PA (x :: xs) cs2) Z) Z) : wCons we w ρ cs PA Z := h
theorem r_tup (h : w ρ cs (fun ds cs1 => P (.tup ds) cs1) Z) : wTup w ρ cs P Z := h
theorem r_lst (h : w ρ cs (fun ds cs1 => P (.lst ds) cs1) Z) : wLst w ρ cs P Z := h
theorem r_cb {o : DOn} (h : w ρ cs (fun ds cs1 => o ds cs1 P) Z) : wCB o w ρ cs P Z := h
theorem r_call {sp : DSp} (h : w ρ cs (fun ds cs1 => sp ds cs1 P Z) Z) : wCall sp [] w ρ cs P Z := by
  unfold wCall
  have e : (fun (ds : List D) (cs1 : Cs) => sp (ds ++ []) cs1 P Z) = fun ds cs1 => sp ds cs1 P Z := by
    funext ds cs1
    rw [List.append_nil]
  rw [e]
  exact h in
#guard_msgs (pass all) in open Nat
theorem r_mtL {o : DMt} (h : wo ρ cs (fun x cs1 => isL x cs1 ∧ w ρ cs1 (fun ds cs2 => o x ds cs2 P) Z) Z) : wMtL o wo w ρ cs P Z := h
theorem r_mtL0 {o : DMt} (h : wo ρ cs (fun x cs1 => isL x cs1 ∧ o x [] cs1 P) Z) : wMtL0 o wo ρ cs P Z := h
variable {a b : Int} {p : Addr} {xs : List D}
theorem r_add (h : P (.int (a + b)) cs) : oAdd (.int a) (.int b) cs P := h
theorem r_sub (h : P (.int (a - b)) cs) : oSub (.int a) (.int b) cs P := h
theorem r_mul (hm : IntMulOk a b) (h : P (.int (a * b)) cs) : oMul (.int a) (.int b) cs P := ⟨hm, h⟩
theorem r_div (hm : 0 < b ∧ b.natAbs.log2 < 9000) (h : P (.int (a / b)) cs) : oDiv (.int a) (.int b) cs P := ⟨hm, h⟩
theorem r_mod (hm : 0 < b) (h : P (.int (a % b)) cs) : oMod (.int a) (.int b) cs P := ⟨hm, h⟩
theorem r_pow (hm : CPow a b) (h : P (.int (a ^ b.toNat)) cs) : oPow (.int a) (.int b) cs P := ⟨hm, h⟩
theorem r_lt (h : P (.bl (decide (a < b))) cs) : oLt (.int a) (.int b) cs P := h
theorem r_le (h : P (.bl (decide (a ≤ b))) cs) : oLe (.int a) (.int b) cs P := h
theorem r_gt (h : P (.bl (decide (b < a))) cs) : oGt (.int a) (.int b) cs P := h
theorem r_ge (h : P (.bl (decide (b ≤ a))) cs) : oGe (.int a) (.int b) cs P := h
theorem r_neg (h : P (.int (-a)) cs) : oNeg (.int a) cs P := h
theorem r_eqI (h : P (.bl (decide (a = b))) cs) : oEq (.int a) (.int b) cs P := ⟨rfl, rfl, by rw [eqD_int]; exact h⟩
theorem r_neI (h : P (.bl (!decide (a = b))) cs) : oNe (.int a) (.int b) cs P := ⟨rfl, rfl, by rw [eqD_int]; exact h⟩
theorem r_eqS {s t : Str} (h : P (.bl (decide (s = t))) cs) : oEq (.str s) (.str t) cs P := ⟨rfl, rfl, by
  have e : eqD (.str s) (.str t) = decide (s = t) := by unfold eqD; rw [Bool.beq_eq_decide_eq]
  rw [e]; exact h⟩ in
#guard_msgs (pass all) in open Nat
theorem r_neS {s t : Str} (h : P (.bl (!decide (s = t))) cs) : oNe (.str s) (.str t) cs P := ⟨rfl, rfl, by
  have e : eqD (.str s) (.str t) = decide (s = t) := by unfold eqD; rw [Bool.beq_eq_decide_eq]
  rw [e]; exact h⟩ in
#guard_msgs (pass all) in open Nat
theorem eqD_bl (k l : Bool) : eqD (.bl k) (.bl l) = (k == l) := by unfold eqD; rfl
theorem r_eqB {k l : Bool} (h : P (.bl (k == l)) cs) : oEq (.bl k) (.bl l) cs P := ⟨rfl, rfl, by rw [eqD_bl]; exact h⟩
theorem r_neB {k l : Bool} (h : P (.bl (!(k == l))) cs) : oNe (.bl k) (.bl l) cs P := ⟨rfl, rfl, by rw [eqD_bl]; exact h⟩
theorem plD_dR (r : Rat) {n : Nat} : plD (n + 1) (dR r) = true := by
  cases n <;> rfl
theorem r_eqR {r s : Rat} (h : P (.bl (decide (r = s))) cs) : oEq (dR r) (dR s) cs P := ⟨plD_dR r, plD_dR s, by rw [eqD_dR]; exact h⟩
theorem r_neR {r s : Rat} (h : P (.bl (!decide (r = s))) cs) : oNe (dR r) (dR s) cs P := ⟨plD_dR r, plD_dR s, by rw [eqD_dR]; exact h⟩
theorem r_ixT (hi : atD xs a = some d) (h : P d cs) : oIx (.tup xs) (.int a) cs P := by
  unfold oIx; simp only [hi]; exact h in
#guard_msgs (pass all) in open Nat
theorem r_ixL (hi : atD xs a = some d) (h : P d cs) : oIx (.lst xs) (.int a) cs P := by
  unfold oIx; simp only [hi]; exact h in
#guard_msgs (pass all) in open Nat
theorem r_ixR0 {r : Rat} (h : P (.int r.num) cs) : oIx (dR r) (.int 0) cs P := h
theorem r_ixR1 {r : Rat} (h : P (.int (r.den : Int)) cs) : oIx (dR r) (.int 1) cs P := h
theorem r_ixM (hl : look p cs = some (.lst xs)) (hi : atD xs a = some d) (h : P d cs) : oIxM (.opq (.ref p)) (.int a) cs P := by
  unfold oIxM; simp only [hl, hi]; exact h in
#guard_msgs (pass all) in open Nat
theorem r_setL {R : Cs → Prop} (hl : look p cs = some (.lst xs)) (hi : ixN xs.length a = some j) (h : R (put p (.lst (xs.set j d)) cs)) : oSetL (.opq (.ref p)) (.int a) d cs R := by
  unfold oSetL; simp only [hl, hi]; exact h in
#guard_msgs (pass all) in open Nat
theorem r_abs (h : P (.int (if a < 0 then -a else a)) cs) : oAbs [.int a] cs P := h
theorem r_lenL (h : P (.int (xs.length : Int)) cs) : oLen [.lst xs] cs P := h
theorem r_lenT (h : P (.int (xs.length : Int)) cs) : oLen [.tup xs] cs P := h
theorem r_listL (h : P (.lst xs) cs) : oList [.lst xs] cs P := h
theorem r_listT (h : P (.lst xs) cs) : oList [.tup xs] cs P := h
theorem r_append (hl : look p cs = some (.lst xs)) (hz : xs.length < 100000) (h : P .non (put p (.lst (xs ++ [d])) cs)) : oAppend (.opq (.ref p)) [d] cs P := by
  unfold oAppend; simp only [hl]; exact ⟨hz, h⟩ in
#guard_msgs (pass all) in open Nat
theorem r_isM (hl : look p cs = some (.lst xs)) {R : Prop} (h : R) : isL (.opq (.ref p)) cs ∧ R := ⟨by unfold isL; simp only [hl], h⟩
theorem r_isL {R : Prop} (h : R) : isL (.lst xs) cs ∧ R := ⟨trivial, h⟩
theorem r_count (h1 : plL 20 xs = true) (h2 : plD 20 d = true) (h : P (.int (cntD xs d : Int)) cs) : oCount (.lst xs) [d] cs P := ⟨h1, h2, h⟩
theorem r_seqI {R : List D → Cs → Prop} (h : we ρ cs (fun d cs1 => match d with | .lst xs => R xs cs1 | _ => False) Z) : iSeq we ρ cs R Z := h
theorem r_tupI {R : List D → Cs → Prop} (h : we ρ cs (fun d cs1 => match d with | .tup xs => R xs cs1 | _ => False) Z) : iTupD we ρ cs R Z := h
theorem r_rg1 {R : List D → Cs → Prop} (h : we ρ cs (fun d cs1 => match d with | .int j => (-(2 ^ 62) ≤ j ∧ j < 2 ^ 62) ∧ R (rngD 0 j.toNat) cs1 | _ => False) Z) : iRg1 (wCons we wNil) ρ cs R Z := by
  unfold iRg1 wCons wNil
  have e : (fun (d : D) (cs1 : Cs) => (match [d] with | [D.int j] => (-(2 ^ 62) ≤ j ∧ j < 2 ^ 62) ∧ R (rngD 0 j.toNat) cs1 | _ => False)) = fun d cs1 => match d with | .int j => (-(2 ^ 62) ≤ j ∧ j < 2 ^ 62) ∧ R (rngD 0 j.toNat) cs1 | _ => False := by
    funext d cs1
    cases d <;> rfl
  rw [← e] at h
  exact h in
#guard_msgs (pass all) in open Nat
theorem divOk {b : Int} (h : 0 < b) (h2 : b < 2 ^ 60) : 0 < b ∧ b.natAbs.log2 < 9000 := by
  refine ⟨h, ?_⟩
  have e : b.natAbs < 2 ^ 60 := by omega
  exact Nat.lt_of_lt_of_le (PySem.Flt.log2_lt_of (by decide) e) (by decide) in
#guard_msgs (pass all) in open Nat
theorem put_look {p : Addr} {m : MO} : ∀ {cs : Cs}, look p cs = some m → put p m cs = cs
  | [], h => by cases h
  | (a, x) :: r, h => by
    unfold look at h
    unfold put
    split at h
    · rename_i e
      cases h
      rw [if_pos e]
    · rename_i e
      rw [if_neg e, put_look h]
theorem decT {p : Prop} [Decidable p] (h : decide p = true) : p := of_decide_eq_true h
theorem decF {p : Prop} [Decidable p] (h : decide p = false) : ¬ p := of_decide_eq_false h
theorem ndecT {p : Prop} [Decidable p] (h : (!decide p) = true) : ¬ p := by simpa using h
theorem ndecF {p : Prop} [Decidable p] (h : (!decide p) = false) : p := by simpa using h
end
end DL
namespace DL
open PySem PySem.Spec PyProof.Rows L2
section
variable {X : Cx} {W : WX} {K : PySem.W.Frag} {σ : L2.St} {H : Hp} {pos : Pos} {a b e : Expr} {es : List Expr} {wa wb we : DL.WE} {w : WA}
theorem d_ty {x : Str} {n : String} (hg : Gl X x) (hm : X.mg x = none) (hv : bootBuiltins x = some (.type n)) (hn : x ≠ "__name__" := by decide) (hd : (x == ("__debug__" : Str)) = false := by decide) : DE X W (.Name x pos) (wC (.opq (.ty n))) :=
  d_of (pe_bltn hg hm hv (v := .ty n) rfl hn hd) fun _ => .opq _ in
#guard_msgs (pass all) in open Nat
def tyS : D → Option String
  | .non => some "NoneType"
  | .bl _ => some "bool"
  | .int _ => some "int"
  | .str _ => some "str"
  | .tup _ => some "tuple"
  | .lst _ => some "list"
  | .dic _ => some "dict"
  | _ => none
def isT (t n : String) : Bool := t == n || (t == "bool" && n == "int")
theorem isT_kit : (["NoneType", "bool", "int", "str", "tuple", "list", "dict"].all fun t => ["bool", "int", "str", "tuple", "list", "dict"].all fun n => kitB t n == some (isT t n)) = true := by decide +kernel in
#guard_msgs (pass all) in open Nat
theorem isT_ok {d : D} {t n : String} (h : tyS d = some t) (hn : (["bool", "int", "str", "tuple", "list", "dict"].contains n) = true) : PySem.W.kitOne K (.type t) (.type n) = some (isT t n) := by
  refine kit_ty ?_
  have h1 : t ∈ ["NoneType", "bool", "int", "str", "tuple", "list", "dict"] := by
    cases d <;> simp [tyS] at h <;> subst h <;> decide
  have h2 : n ∈ ["bool", "int", "str", "tuple", "list", "dict"] := by simpa using hn
  exact eq_of_beq (List.all_eq_true.mp (List.all_eq_true.mp isT_kit t h1) n h2) in
#guard_msgs (pass all) in open Nat
theorem tyX_of {F : Hp} {cs : Cs} {x : V} {d : D} {t : String} (r : Rep K (pur F cs H) x d) (h : tyS d = some t) : TyX K H x (.type t) := by
  cases r with
  | non => simp [tyS] at h; subst h; exact .base .non
  | bl b => simp [tyS] at h; subst h; exact .base (.bl b)
  | int i => simp [tyS] at h; subst h; exact .base (.int i)
  | str x => simp [tyS] at h; subst h; exact .base (.str x)
  | opq v => simp [tyS] at h
  | lst h1 r =>
    simp [tyS] at h; subst h
    rcases ex_l pur_le h1 with (q | ⟨o, q⟩) | ⟨o, its, n, q, c, _⟩
    · exact .base (.lst q)
    · exact .base (.frz q)
    · exact .kList q c
  | tup h1 r =>
    simp [tyS] at h; subst h
    rcases ex_t pur_le h1 with (q | ⟨o, q⟩) | ⟨o, its, n, q, c, _⟩
    · exact .base (.tup q)
    · exact .fTuple q
    · exact .kTuple q c
  | dic h1 r =>
    simp [tyS] at h; subst h
    exact .fDict (pur_le _ _ h1)
  | dct h1 r => simp [tyS] at h
  | ins h1 h2 r => simp [tyS] at h
  | xcp h1 r => simp [tyS] at h in
#guard_msgs (pass all) in open Nat
def isiD (d : D) (n : String) : Option Bool := (tyS d).bind fun t => if (["bool", "int", "str", "tuple", "list", "dict"].contains n) = true then some (isT t n) else none
def oIsi : DOn := fun ds cs P => match ds with
  | [d, .opq (.ty n)] => (match isiD d n with
    | some k => P (.bl k) cs
    | none => False)
  | _ => False
theorem isiD_inv {d : D} {n : String} {k : Bool} (h : isiD d n = some k) : ∃ t, tyS d = some t ∧ (["bool", "int", "str", "tuple", "list", "dict"].contains n) = true ∧ k = isT t n := by
  unfold isiD at h
  cases e : tyS d with
  | none => rw [e] at h; cases h
  | some t =>
    rw [e, Option.bind_some] at h
    split at h
    · rename_i hn
      cases h
      exact ⟨t, rfl, hn, rfl⟩
    · cases h in
#guard_msgs (pass all) in open Nat
theorem adq_isi : AdqN K (rIsi K) oIsi := fun F cs H xs ds P Q s r ho pe => by
  unfold oIsi at ho
  split at ho
  · split at ho
    · rename_i k e
      obtain ⟨t, h1, h2, h3⟩ := isiD_inv e
      cases r with
      | cons r1 r2 =>
        cases r2 with
        | cons r2 r3 =>
          cases r3
          cases r2
          exact ⟨_, _, _, _, k, rfl, .ty _, tyX_of r1 h1, by rw [h3]; exact isT_ok h1 h2, pe H cs _ _ s (.bl _) ho⟩
    · exact ho.elim
  · exact ho.elim in
#guard_msgs (pass all) in open Nat
/-- isinstance(x, (T1, T2, ..)) -/
def tyNames : List D → Option (List String)
  | [] => some []
  | .opq (.ty n) :: r => if (["bool", "int", "str", "tuple", "list", "dict"].contains n) = true then (tyNames r).map (n :: ·) else none
  | _ => none
def oIsiT : DOn := fun ds cs P => match ds with
  | [d, .tup ts] => (match tyS d, tyNames ts with
    | some t, some ns => P (.bl (ns.any fun n => isT t n)) cs
    | _, _ => False)
  | _ => False
theorem isiAny_ok {G : Hp} {d : D} {t : String} (ht : tyS d = some t) : ∀ {ts : List D} {vs : List V} {ns : List String}, RepL K G vs ts → tyNames ts = some ns → Paired ClsV vs (ns.map Value.type) ∧ PySem.W.kitAny K (.type t) (ns.map Value.type) = some (ns.any fun n => isT t n)
  | [], _, ns, .nil, h => by
      have e : some [] = some ns := h
      cases e; exact ⟨.nil, rfl⟩
  | c :: r, _, ns, .cons r1 r2, h => by
    cases c <;> try (simp [tyNames] at h; done)
    rename_i v
    cases v <;> try (simp [tyNames] at h; done)
    rename_i n
    cases r1
    unfold tyNames at h
    split at h
    · rename_i hn
      cases e : tyNames r with
      | none => rw [e] at h; cases h
      | some ms =>
        rw [e] at h
        cases h
        obtain ⟨p1, p2⟩ := isiAny_ok ht r2 e
        refine ⟨.cons (.ty n) p1, ?_⟩
        rw [List.map_cons, List.any_cons]
        exact kitAny_cons (b := isT t n) (isT_ok ht hn) (fun z => by rw [p2, z, Bool.false_or]) (fun z => by rw [z, Bool.true_or])
    · cases h in
#guard_msgs (pass all) in open Nat
theorem adq_isiT : AdqN K (fun xs H Q => ∃ (x : V) (tp : Addr) (cs : List V) (t : Value) (us : List Value) (b : Bool), xs = [x, .ref tp] ∧ SqT K H tp cs ∧ Paired ClsV cs us ∧ TyX K H x t ∧ PySem.W.kitAny K t us = some b ∧ Q (.bl b) H) oIsiT := fun F cs H xs ds P Q s r ho pe => by
  unfold oIsiT at ho
  split at ho
  · split at ho
    · rename_i t ns e1 e2
      cases r with
      | cons r1 r2 =>
        cases r2 with
        | cons r2 r3 =>
          cases r3
          cases r2 with
          | tup h r =>
            obtain ⟨p1, p2⟩ := isiAny_ok e1 r e2
            exact ⟨_, _, _, _, _, _, rfl, ex_t pur_le h, p1, tyX_of r1 e1, p2, pe H cs _ _ s (.bl _) ho⟩
    · exact ho.elim
  · exact ho.elim in
#guard_msgs (pass all) in open Nat
theorem call_isiD : CallR X (.builtin "isinstance") (fun xs H Q => ∃ (x : V) (tp : Addr) (cs : List V) (t : Value) (us : List Value) (b : Bool), xs = [x, .ref tp] ∧ SqT X.K H tp cs ∧ Paired ClsV cs us ∧ TyX X.K H x t ∧ PySem.W.kitAny X.K t us = some b ∧ Q (.bl b) H) := by
  intro pins s σ H xs us Q I r h
  obtain ⟨x, tp, cs, t, ws, b, rfl, hT, k, ty, e, q⟩ := h
  obtain ⟨u1, u2, rfl, r1, r2⟩ := vals2 r
  cases (show u2 = Value.ref tp from r2)
  obtain ⟨P, Z, p, hx⟩ := kit_of I r1 ty
  obtain ⟨its, rv, ⟨o, h1, h2, n, h3⟩, _⟩ := I.tuple hT
  have e3 := ClsV.all k rv
  subst e3
  obtain ⟨oc, od, dt, sl⟩ := o
  simp only at h2 h3
  subst h2 h3
  exact PySem.W.kia_tup Z I.kIn p h1 e hx fun tk => ⟨.bl b, H, I.tok tk, rfl, q⟩ in
#guard_msgs (pass all) in open Nat
def blsOf : List D → Option (List Bool)
  | [] => some []
  | .bl i :: r => (blsOf r).map (i :: ·)
  | _ => none
theorem blsOf_map (ns : List Bool) : blsOf (ns.map D.bl) = some ns := by
  induction ns with
  | nil => rfl
  | cons n ns ih => rw [List.map_cons]; unfold blsOf; rw [ih]; rfl in
#guard_msgs (pass all) in open Nat
theorem blsOf_inv : ∀ {ds : List D} {ns : List Bool}, blsOf ds = some ns → ds = ns.map D.bl
  | [], ns, h => by cases h; rfl
  | d :: r, ns, h => by
    cases d <;> try (simp [blsOf] at h; done)
    unfold blsOf at h
    cases e : blsOf r with
    | none => rw [e] at h; cases h
    | some ms => rw [e] at h; cases h; rw [blsOf_inv e]; rfl
def oAll : DOn := fun ds cs P => match ds with
  | [.lst xs] => (match blsOf xs with
    | some bs => P (.bl (bs.all id)) cs
    | none => False)
  | _ => False
theorem adq_all : AdqN K (rAll K) oAll := fun F cs H xs ds P Q s r ho pe => by
  unfold oAll at ho
  split at ho
  · split at ho
    · rename_i ns e
      have e1 := blsOf_inv e
      cases r with
      | cons r1 r2 =>
        cases r2
        cases r1 with
        | lst h r =>
          rw [e1] at r
          have e2 := RepL.bls ns r
          subst e2
          exact ⟨_, ns, rfl, ex_l pur_le h, pe H cs _ _ s (.bl _) ho⟩
    · exact ho.elim
  · exact ho.elim in
#guard_msgs (pass all) in open Nat
def oTuple : DOn := fun ds cs P => match ds with
  | [.lst xs] => P (.tup xs) cs
  | [.tup xs] => P (.tup xs) cs
  | _ => False
def oSlT : D → Option Int → Option Int → Cs → DP → Prop := fun x lo hi cs P => match x with
  | .tup xs => P (.tup (cutD xs lo hi)) cs
  | _ => False
def oCatT : DO2 := fun x y cs P => match x, y with
  | .tup xs, .tup ys => xs.length + ys.length ≤ 100000 ∧ P (.tup (xs ++ ys)) cs
  | _, _ => False
theorem yi_zipL {G : Hp} {p q : Addr} {xs ys : List V} {ds es : List D} (h1 : SqL K G p xs) (r1 : RepL K G xs ds) (h2 : SqL K G q ys) (r2 : RepL K G ys es) : YI K (Itz K p q) G (List.zipWith (fun d e => D.tup [d, e]) ds es) where
  go := fun i d e F cs H s => by
    rw [List.getElem?_zipWith] at e
    cases e1 : ds[i]? with
    | none => rw [e1] at e; cases e
    | some x => cases e2 : es[i]? with
      | none => rw [e1, e2] at e; cases e
      | some y =>
        obtain ⟨v, a1, _⟩ := r1.get e1
        obtain ⟨u, a2, _⟩ := r2.get e2
        exact ⟨xs, ys, v, u, ex_l (s.gr.trans pur_le) h1, ex_l (s.gr.trans pur_le) h2, a1, a2⟩
  yld := fun i d e F cs H x H' s hy => by
    obtain ⟨T, v, u, rfl, hT, rfl, k1, k2⟩ := hy
    rw [List.getElem?_zipWith] at e
    cases e1 : ds[i]? with
    | none => rw [e1] at e; cases e
    | some dx => cases e2 : es[i]? with
      | none => rw [e1, e2] at e; cases e
      | some dy =>
        rw [e1, e2] at e
        cases e
        obtain ⟨v', a1, b1⟩ := r1.get e1
        obtain ⟨u', a2, b2⟩ := r2.get e2
        have c1 := k1 xs (ex_l (s.gr.trans pur_le) h1)
        have c2 := k2 ys (ex_l (s.gr.trans pur_le) h2)
        rw [a1] at c1; rw [a2] at c2
        obtain rfl := Option.some.inj c1
        obtain rfl := Option.some.inj c2
        obtain ⟨s2, e3⟩ := s.new (o := .tup [_, _]) hT
        exact ⟨s2, .tup (SqT.of e3) (.cons (b1.mono (s.gr.trans s2.gr)) (.cons (b2.mono (s.gr.trans s2.gr)) .nil))⟩
  stop := fun F cs H s => by
    refine ⟨xs, ys, ex_l (s.gr.trans pur_le) h1, ex_l (s.gr.trans pur_le) h2, ?_⟩
    rw [List.length_zipWith, r1.length, r2.length]; omega in
#guard_msgs (pass all) in open Nat
theorem yi_zipT {G : Hp} {p q : Addr} {xs ys : List V} {ds es : List D} (h1 : SqT K G p xs) (r1 : RepL K G xs ds) (h2 : SqT K G q ys) (r2 : RepL K G ys es) : YI K (RZ.ItzT K p q) G (List.zipWith (fun d e => D.tup [d, e]) ds es) where
  go := fun i d e F cs H s => by
    rw [List.getElem?_zipWith] at e
    cases e1 : ds[i]? with
    | none => rw [e1] at e; cases e
    | some x => cases e2 : es[i]? with
      | none => rw [e1, e2] at e; cases e
      | some y =>
        obtain ⟨v, a1, _⟩ := r1.get e1
        obtain ⟨u, a2, _⟩ := r2.get e2
        exact ⟨xs, ys, v, u, ex_t (s.gr.trans pur_le) h1, ex_t (s.gr.trans pur_le) h2, a1, a2⟩
  yld := fun i d e F cs H x H' s hy => by
    obtain ⟨T, v, u, rfl, hT, rfl, k1, k2⟩ := hy
    rw [List.getElem?_zipWith] at e
    cases e1 : ds[i]? with
    | none => rw [e1] at e; cases e
    | some dx => cases e2 : es[i]? with
      | none => rw [e1, e2] at e; cases e
      | some dy =>
        rw [e1, e2] at e
        cases e
        obtain ⟨v', a1, b1⟩ := r1.get e1
        obtain ⟨u', a2, b2⟩ := r2.get e2
        have c1 := k1 xs (ex_t (s.gr.trans pur_le) h1)
        have c2 := k2 ys (ex_t (s.gr.trans pur_le) h2)
        rw [a1] at c1; rw [a2] at c2
        obtain rfl := Option.some.inj c1
        obtain rfl := Option.some.inj c2
        obtain ⟨s2, e3⟩ := s.new (o := .tup [_, _]) hT
        exact ⟨s2, .tup (SqT.of e3) (.cons (b1.mono (s.gr.trans s2.gr)) (.cons (b2.mono (s.gr.trans s2.gr)) .nil))⟩
  stop := fun F cs H s => by
    refine ⟨xs, ys, ex_t (s.gr.trans pur_le) h1, ex_t (s.gr.trans pur_le) h2, ?_⟩
    rw [List.length_zipWith, r1.length, r2.length]; omega in
#guard_msgs (pass all) in open Nat
def iZp (w : WA) : WI := fun ρ cs P Z => w ρ cs (fun ds cs1 => match ds with
  | [.lst xs, .lst ys] => P (List.zipWith (fun d e => D.tup [d, e]) xs ys) cs1
  | [.tup xs, .tup ys] => P (List.zipWith (fun d e => D.tup [d, e]) xs ys) cs1
  | _ => False) Z
theorem zp_inv {ds : List D} {g : List D → List D → Prop} (h : (match ds with | [D.lst xs, D.lst ys] => g xs ys | [D.tup xs, D.tup ys] => g xs ys | _ => False)) : ∃ xs ys, (ds = [.lst xs, .lst ys] ∨ ds = [.tup xs, .tup ys]) ∧ g xs ys := by
  match ds, h with
  | [D.lst xs, D.lst ys], h => exact ⟨xs, ys, .inl rfl, h⟩
  | [D.tup xs, D.tup ys], h => exact ⟨xs, ys, .inr rfl, h⟩ in
#guard_msgs (pass all) in open Nat
theorem di_zip {e2 : Expr} {p tpos : Pos} {elts : List Expr} {kk : Nat} (hg : Gl X "zip") (hm : X.mg "zip" = none) (ha : DA X W [e, e2] w)
    (hs : starEach [e, e2] X.env = (false, eval e X.env) :: starEach [e2] X.env := by rfl) (hpl : (backTo pos (starEach [e2] X.env)).any (·.1) = false := by rfl) :
    DI X W (.Tuple elts kk tpos) (.Call (.Name "zip" p) [e, e2] [] pos) (iZp w) := PI.imp (RZ.pi_zipA hg hm ha hs hpl) fun σ H R hq => by
  obtain ⟨F, cs, ρ, P, Z, s, re, hw, pe, px⟩ := hq
  refine ⟨F, cs, ρ, _, Z, s, re, hw, fun H1 cs1 vs ds s1 r1 l1 h1 => ?_, px⟩
  obtain ⟨xs, ys, e1, h⟩ := zp_inv h1
  rcases e1 with e1 | e1
  · subst e1
    cases r1 with
    | cons r1 r2 =>
      cases r2 with
      | cons r2 r3 =>
        cases r3
        cases r1 with
        | lst a1 b1 =>
          cases r2 with
          | lst a2 b2 => exact ⟨_, _, _, _, rfl, .inl ⟨ex_l pur_le a1, ex_l pur_le a2, pe H1 cs1 _ _ s1 (yi_zipL a1 b1 a2 b2) h⟩⟩
  · subst e1
    cases r1 with
    | cons r1 r2 =>
      cases r2 with
      | cons r2 r3 =>
        cases r3
        cases r1 with
        | tup a1 b1 =>
          cases r2 with
          | tup a2 b2 => exact ⟨_, _, _, _, rfl, .inr ⟨ex_t pur_le a1, ex_t pur_le a2, pe H1 cs1 _ _ s1 (yi_zipT a1 b1 a2 b2) h⟩⟩ in
#guard_msgs (pass all) in open Nat
end
abbrev W0 : WX := fun _ _ _ _ => False
abbrev Z0 : XZ := fun _ _ => False
section
variable {X : Cx} {W : WX} {K : PySem.W.Frag} {σ : L2.St} {H : Hp}
def compW (g : WG) (wt : WT) (we : DL.WE) : List D → DL.Env → Cs → List D → (List D → Cs → Prop) → Prop
  | [], _, cs, acc, P => P acc cs
  | d :: r, ρ, cs, acc, P => g d ρ fun ρ1 => wt ρ1 cs (fun k cs1 => (k = true → we ρ1 cs1 (fun y cs2 => compW g wt we r ρ cs2 (acc ++ [y]) P) Z0) ∧ (k = false → compW g wt we r ρ cs1 acc P)) Z0
def wipeD (ρ : DL.Env) : List Nat → DL.Env
  | [] => ρ
  | v :: vs => (wipeD ρ vs).set v none
def wComp (wi : WI) (g : WG) (wt : WT) (we : DL.WE) (vs : List Nat) : DL.WE := fun ρ cs P Z => wi ρ cs (fun xs cs1 => xs.length ≤ 100000 ∧ compW g wt we xs (wipeD ρ vs) cs1 [] (fun ds cs2 => P (.lst ds) cs2)) Z
def wYes : WT := fun _ cs P _ => P true cs
theorem yes_ok {Q : Bool → Hp → Prop} (h : lT K W wYes σ H Q) : tYes σ H Q := by
  obtain ⟨F, cs, ρ, P, Z, s, re, hw, pe, px⟩ := h
  exact pe H cs true s hw in
#guard_msgs (pass all) in open Nat
theorem PTs.imp {X : Cx} {ifs : List Expr} {t t' : TT} (h : PTs X ifs t) (i : ∀ σ H Q, t' σ H Q → t σ H Q) : PTs X ifs t' := ⟨fun pins s σ H Q I q => h.run pins s σ H Q I (i σ H Q q)⟩
theorem dts_nil : PTs X [] (lT X.K W wYes) := PTs.imp pts_nil fun _ _ _ h => yes_ok h
theorem dts_one {c : Expr} {wt : WT} (h : DT X W c wt) : PTs X [c] (lT X.K W wt) := pts_one h
theorem RepE.setN {G : Hp} {σ : L2.St} {ρ : DL.Env} (r : RepE K G σ ρ) : ∀ i, RepE K G (σ.set i none) (ρ.set i none) := fun i => by
  induction r generalizing i with
  | nil => exact .nil
  | cons h r ih => cases i with
    | zero => exact .cons .skip r
    | succ i => exact .cons h (ih i)
theorem RepE.wipe {G : Hp} {σ : L2.St} {ρ : DL.Env} (r : RepE K G σ ρ) : ∀ vs, RepE K G (L2.wipe σ vs) (wipeD ρ vs)
  | [] => r
  | v :: vs => (RepE.wipe r vs).setN v
theorem set_none_comm (σ : L2.St) (i j : Nat) (v : Option V) (h : i ≠ j) : (σ.set i v).set j none = (σ.set j none).set i v := (List.set_comm v none h)
theorem wipe_set {σ : L2.St} {i : Nat} {v : Option V} : ∀ {vs : List Nat}, i ∈ vs → L2.wipe (σ.set i v) vs = L2.wipe σ vs
  | [], h => by cases h
  | a :: vs, h => by
    unfold L2.wipe
    by_cases hi : i ∈ vs
    · rw [wipe_set hi]
    · have e : i = a := by
        rcases List.mem_cons.mp h with z | z
        · exact z
        · exact absurd z hi
      subst e
      have key : ∀ (vs : List Nat), i ∉ vs → L2.wipe (σ.set i v) vs = (L2.wipe σ vs).set i v := by
        intro vs
        induction vs with
        | nil => intro _; rfl
        | cons b bs ih =>
          intro hb
          have h1 : i ≠ b := fun z => hb (z ▸ List.mem_cons_self ..)
          unfold L2.wipe
          rw [ih fun z => hb (List.mem_cons_of_mem _ z), set_none_comm _ _ _ _ h1]
      rw [key vs hi, List.set_set] in
#guard_msgs (pass all) in open Nat
theorem wipe_wipe {σ : L2.St} : ∀ {vs : List Nat}, L2.wipe (L2.wipe σ vs) vs = L2.wipe σ vs := by
  intro vs
  have key : ∀ (us : List Nat), (∀ u ∈ us, u ∈ vs) → L2.wipe (L2.wipe σ us) vs = L2.wipe σ vs := by
    intro us
    induction us with
    | nil => intro _; rfl
    | cons a us ih =>
      intro h
      have e : L2.wipe σ (a :: us) = (L2.wipe σ us).set a none := rfl
      rw [e, wipe_set (h a (List.mem_cons_self ..)), ih fun u hu => h u (List.mem_cons_of_mem _ hu)]
  exact key vs fun _ h => h in
#guard_msgs (pass all) in open Nat
/-- a thing of ours is put aside -/
theorem ft_upd {F : Hp} {p : Addr} {o : HO} (h : ∀ a xs, F a ≠ some (.tup xs)) (ho : ∀ xs, o ≠ .tup xs) : ∀ a xs, upd F p o a ≠ some (.tup xs) := fun a xs e => by
  by_cases hb : a = p
  · rw [hb, upd_same] at e; exact ho xs (Option.some.inj e)
  · rw [upd_ne hb] at e; exact h a xs e
theorem ft_back {F : Hp} {p : Addr} {o : HO} (h : ∀ a xs, upd F p o a ≠ some (.tup xs)) (hF : F p = none) : ∀ a xs, F a ≠ some (.tup xs) := fun a xs e => by
  refine h a xs ?_
  rw [upd_ne (fun z => by rw [z, hF] at e; cases e)]; exact e
theorem Sta.aside {F G0 : Hp} {cs : Cs} {p : Addr} {o : HO} (s : Sta K F G0 cs H) (h : H p = none) (ho : ∀ xs, o ≠ .tup xs := by intro _ z; cases z) : Sta K (upd F p o) (pur F cs H) cs (upd H p o) := by
  obtain ⟨hF, hc⟩ := s.notin h
  have g : Ex (pur F cs H) (pur (upd F p o) cs (upd H p o)) := fun b u e => by
    obtain ⟨e1, e2, e3⟩ := pur_of e
    have hb : b ≠ p := ne_of_none e1 h
    rw [pur_at (by rw [upd_ne hb]; exact e2) e3, upd_ne hb]; exact e1
  refine ⟨fun b u e => ?_, g, s.nd, fun a ha => ?_, fun a m hm => ?_, ft_upd s.ft ho⟩
  · by_cases hb : b = p
    · subst hb; rw [upd_same] at e ⊢; exact e
    · rw [upd_ne hb] at e ⊢; exact s.fr b u e
  · rw [upd_ne (show a ≠ p from fun z => hc (by rw [← z]; exact ha))]; exact s.ap a ha
  · obtain ⟨u, hu, q⟩ := s.ow a m hm
    exact ⟨u, by rw [upd_ne (ne_of_none hu h)]; exact hu, q.mono g⟩ in
#guard_msgs (pass all) in open Nat
theorem Sta.turn {F G0 : Hp} {cs : Cs} {p : Addr} {o o' : HO} (s : Sta K (upd F p o) G0 cs H) (hF : F p = none) (ho : ∀ xs, o' ≠ .tup xs := by intro _ z; cases z) : Sta K (upd F p o') G0 cs (upd H p o') ∧ pur (upd F p o') cs (upd H p o') = pur (upd F p o) cs H := by
  have e : pur (upd F p o') cs (upd H p o') = pur (upd F p o) cs H := by
    funext b
    unfold pur
    by_cases hb : b = p
    · subst hb
      rw [if_pos (.inl (by rw [upd_same]; rfl)), if_pos (.inl (by rw [upd_same]; rfl))]
    · rw [upd_ne hb, upd_ne hb, upd_ne hb]
  refine ⟨⟨fun b u h => ?_, by rw [e]; exact s.gr, s.nd, fun a ha => ?_, fun a m hm => ?_, ft_upd (ft_back s.ft hF) ho⟩, e⟩
  · by_cases hb : b = p
    · subst hb; rw [upd_same] at h ⊢; exact h
    · rw [upd_ne hb] at h ⊢
      exact s.fr b u (by rw [upd_ne hb]; exact h)
  · have := s.ap a ha
    by_cases hb : a = p
    · subst hb; rw [upd_same] at this; cases this
    · rw [upd_ne hb] at this ⊢; exact this
  · obtain ⟨u, hu, q⟩ := s.ow a m hm
    have ha := s.ap a (List.mem_map.mpr ⟨(a, m), hm, rfl⟩)
    have hb : a ≠ p := fun z => by subst z; rw [upd_same] at ha; cases ha
    exact ⟨u, by rw [upd_ne hb]; exact hu, by rw [e]; exact q⟩ in
#guard_msgs (pass all) in open Nat
/-- .. and is data again -/
theorem Sta.back {F G0 : Hp} {cs : Cs} {p : Addr} {o : HO} (s : Sta K (upd F p o) G0 cs H) (hF : F p = none) : Sta K F G0 cs H ∧ Ex (pur (upd F p o) cs H) (pur F cs H) ∧ pur F cs H p = some o := by
  have hc : p ∉ adr cs := fun z => by
    have := s.ap p z
    rw [upd_same] at this; cases this
  have g : Ex (pur (upd F p o) cs H) (pur F cs H) := fun b u e => by
    obtain ⟨e1, e2, e3⟩ := pur_of e
    by_cases hb : b = p
    · subst hb; rw [upd_same] at e2; cases e2
    · rw [upd_ne hb] at e2
      rw [pur_at e2 e3]; exact e1
  refine ⟨⟨fun b u e => ?_, s.gr.trans g, s.nd, fun a ha => ?_, fun a m hm => ?_, ft_back s.ft hF⟩, g, ?_⟩
  · refine s.fr b u ?_
    rw [upd_ne (fun z => by rw [z, hF] at e; cases e)]; exact e
  · have := s.ap a ha
    by_cases hb : a = p
    · exact absurd (hb ▸ ha) hc
    · rw [upd_ne hb] at this; exact this
  · obtain ⟨u, hu, q⟩ := s.ow a m hm
    exact ⟨u, hu, q.mono g⟩
  · rw [pur_at hF hc]
    exact s.fr p o upd_same in
#guard_msgs (pass all) in open Nat
/-- how a target of a comprehension binds: its slots alone -/
def GOk (K : PySem.W.Frag) (g : TG) (gd : WG) (vs : List Nat) : Prop := ∀ F cs H σ ρ v d k (Q : L2.St → Hp → Prop), Sta K F (pur F cs H) cs H → RepE K (pur F cs H) σ ρ → Rep K (pur F cs H) v d → L2.wipe σ vs = σ → gd d ρ k →
  (∀ σ' ρ', L2.wipe σ' vs = σ → RepE K (pur F cs H) σ' ρ' → k ρ' → Q σ' H) → g v σ H Q
theorem gok_name {i : Nat} {vs : List Nat} (h : i ∈ vs) : GOk K (gName i) (gN i) vs := fun F cs H σ ρ v d k Q s re r hw hk q => by
  refine q _ _ ?_ (re.set r i) hk
  rw [wipe_set h, hw]
theorem gok_two {i j : Nat} {vs : List Nat} (hi : i ∈ vs) (hj : j ∈ vs) : GOk K (gTup K 2 (gCons (gName i) (gCons (gName j) gNil))) (gT 2 (gCn (gN i) (gCn (gN j) gNl))) vs := fun F cs H σ ρ v d k Q s re r hw hk q => by
  cases d <;> try exact hk.elim
  rename_i ds
  obtain ⟨hl, hk⟩ := hk
  cases r with
  | tup h r =>
    obtain ⟨d1, d2, rfl⟩ : ∃ d1 d2, ds = [d1, d2] := by
      cases ds with
      | nil => cases hl
      | cons d1 ds => cases ds with
        | nil => cases hl
        | cons d2 ds => cases ds with
          | nil => exact ⟨d1, d2, rfl⟩
          | cons _ _ => simp at hl
    cases r with
    | cons r1 r =>
      cases r with
      | cons r2 r =>
        cases r
        exact ⟨_, _, rfl, ex_t pur_le h, rfl, _, _, rfl, _, _, rfl, rfl, q _ _ (by rw [wipe_set hj, wipe_set hi, hw]) ((re.set r1 i).set r2 j) hk⟩ in
#guard_msgs (pass all) in open Nat
theorem lc_ok {wi : WI} {g : TG} {gd : WG} {wt : WT} {we : DL.WE} {vs : List Nat} (gk : GOk K g gd vs) {Q : VK} : lE K W (wComp wi gd wt we vs) σ H Q → tLc (lI K W wi) g (lT K W0 wt) (lE K W0 we) vs σ H Q := by
  rintro ⟨F, cs, ρ, P, Z, s, re, hw, pe, px⟩
  refine ⟨F, cs, ρ, _, Z, s, re, hw, fun H1 cs1 J xs s1 yi h1 => ?_, px⟩
  intro D hD
  obtain ⟨hlen, h1⟩ := h1
  have hFD : F D = none := s1.fr.back hD
  have reW : RepE K (pur F cs1 H1) (L2.wipe σ vs) (wipeD ρ vs) := (re.mono s1.gr).wipe vs
  refine ⟨fun i m H' => i ≤ xs.length ∧ m = xs.length - i ∧ ∃ cs' acc vacc, Sta K (upd F D (.lst vacc)) (pur F cs1 H1) cs' H' ∧ RepL K (pur (upd F D (.lst vacc)) cs' H') vacc acc ∧ acc.length ≤ i ∧ compW gd wt we (xs.drop i) (wipeD ρ vs) cs' acc (fun ds cs2 => P (.lst ds) cs2),
    ⟨xs.length, Nat.zero_le _, rfl, cs1, [], [], s1.aside hD, .nil, Nat.le_refl _, h1⟩, ?_⟩
  rintro i m H2 ⟨hi, rfl, cs2, acc, vacc, s2, ra, hla, h2⟩
  cases e : xs.drop i with
  | nil =>
    have hl : xs.length ≤ i := by
      have z := congrArg List.length e
      rw [List.length_drop] at z
      have z' : xs.length - i = 0 := z
      omega
    have hie : i = xs.length := by omega
    rw [e] at h2
    obtain ⟨s3, g3, e3⟩ := s2.back hFD
    refine .inl ⟨by rw [hie]; exact yi.stop _ cs2 H2 s2, pe H2 cs2 _ _ (s3.from_ s1.gr) (.lst (SqL.of e3) (ra.mono g3)) h2⟩
  | cons d r =>
    obtain ⟨e1, e2⟩ := drop_cons e
    have hlt : i < xs.length := (List.getElem?_eq_some_iff.mp e1).1
    rw [e] at h2
    refine .inr ⟨yi.go i d e1 _ cs2 H2 s2, fun H' => ∃ cs' acc vacc, Sta K (upd F D (.lst vacc)) (pur F cs1 H1) cs' H' ∧ RepL K (pur (upd F D (.lst vacc)) cs' H') vacc acc ∧ acc.length ≤ i + 1 ∧ compW gd wt we r (wipeD ρ vs) cs' acc (fun ds cs2 => P (.lst ds) cs2), ?_, ?_⟩
    · rintro H' ⟨cs', acc', vacc', s', ra', hl', h'⟩
      exact ⟨xs.length - (i + 1), by omega, by omega, rfl, cs', acc', vacc', s', ra', hl', by rw [e2]; exact h'⟩
    · intro x H3 hy
      obtain ⟨s3, r3⟩ := yi.yld i d e1 _ cs2 H2 x H3 s2 hy
      refine gk _ cs2 H3 _ (wipeD ρ vs) x d _ _ s3.self (reW.mono (s2.gr.trans s3.gr)) r3 wipe_wipe h2 fun σ4 ρ4 hw4 re4 h4 => ⟨hw4.trans rfl, ?_⟩
      refine ⟨_, cs2, ρ4, _, Z0, s3.self, re4, h4, fun H5 cs5 k s5 h5 => ?_, fun _ _ _ _ _ _ z => z⟩
      cases k with
      | false => exact iteF ⟨cs5, acc, vacc, s5.from_ (s2.gr.trans s3.gr), ra.mono (s3.gr.trans s5.gr), Nat.le_succ_of_le hla, h5.2 rfl⟩
      | true =>
        refine iteT ⟨_, cs5, ρ4, _, Z0, s5.self, re4.mono s5.gr, h5.1 rfl, fun H6 cs6 y dy s6 r6 h6 => ?_, fun _ _ _ _ _ _ z => z⟩
        have g6 := (s2.gr.trans s3.gr).trans (s5.gr.trans s6.gr)
        have s7 := (s6.from_ ((s2.gr.trans s3.gr).trans s5.gr))
        obtain ⟨s8, e8⟩ := s7.turn (o' := .lst (vacc ++ [y])) hFD
        refine ⟨vacc, s6.fr D _ upd_same, ?_, cs6, acc ++ [dy], vacc ++ [y], s8, ?_, by rw [List.length_append]; exact Nat.succ_le_succ hla, h6⟩
        · rw [ra.length]; exact Nat.lt_of_le_of_lt (Nat.le_trans hla hi) (Nat.lt_of_le_of_lt hlen (by decide))
        · rw [e8]
          exact (ra.mono (s3.gr.trans (s5.gr.trans s6.gr))).append (.cons r6 .nil) in
#guard_msgs (pass all) in open Nat
variable {elt tg iter : Expr} {ifs : List Expr} {scope : Scope} {own : List (Str × Nat)} {pos : Pos} {wi : WI} {g : TG} {gd : WG} {wt : WT} {we : DL.WE}
theorem d_lc (hc : X.calm = true) (hN : X.N.Nodup) (hi : DI X W tg iter wi) (ok : BlkOk X.N X.env.scope scope own) (gk : GOk X.K g gd (own.map (·.2)))
    (hg : ∀ (s : Shared) (H : Hp) (C : Addr) (cl : List (Str × Addr)) (fp : List Addr), PG (X.blk s H scope (compEnvC scope cl C X.env) fp) tg g)
    (ht : ∀ (s : Shared) (H : Hp) (C : Addr) (cl : List (Str × Addr)) (fp : List Addr), PTs (X.blk s H scope (compEnvC scope cl C X.env) fp) ifs (lT X.K W0 wt))
    (he : ∀ (s : Shared) (H : Hp) (C : Addr) (cl : List (Str × Addr)) (fp : List Addr), DE (X.blk s H scope (compEnvC scope cl C X.env) fp) W0 elt we) (hs : ∀ x, foldedSetIterable iter X.env x = pure x := by intro _; rfl) :
    DE X W (.ListComp elt [⟨tg, iter, ifs, 0⟩] scope pos) (wComp wi gd wt we (own.map (·.2))) := PE.imp (pe_lc hc hN hi ok hg ht he hs) fun _ _ _ h => lc_ok gk h in
#guard_msgs (pass all) in open Nat
theorem ds_setLc {i : Nat} {y : Str} {py spos : Pos} (hc : X.calm = true) (hN : X.N.Nodup) (hy : X.N[i]? = some y) (hyl : X.env.scope.names.lookup y = some .local)
    (hsw : swapsWith (.ListComp elt [⟨tg, iter, ifs, 0⟩] scope pos) (some (.Name y py)) spos.line X.env = pure true) (hi : DI X W tg iter wi) (ok : BlkOk X.N X.env.scope scope own) (gk : GOk X.K g gd (own.map (·.2)))
    (hg : ∀ (s : Shared) (H : Hp) (C : Addr) (cl : List (Str × Addr)) (fp : List Addr), PG (X.blk s H scope (compEnvC scope cl C X.env) fp) tg g)
    (ht : ∀ (s : Shared) (H : Hp) (C : Addr) (cl : List (Str × Addr)) (fp : List Addr), PTs (X.blk s H scope (compEnvC scope cl C X.env) fp) ifs (lT X.K W0 wt))
    (he : ∀ (s : Shared) (H : Hp) (C : Addr) (cl : List (Str × Addr)) (fp : List Addr), DE (X.blk s H scope (compEnvC scope cl C X.env) fp) W0 elt we) (hs : ∀ x, foldedSetIterable iter X.env x = pure x := by intro _; rfl) :
    DS X W (.Assign [.Name y py] (.ListComp elt [⟨tg, iter, ifs, 0⟩] scope pos) spos) (sAsg (wComp wi gd wt we (own.map (·.2))) (gN i)) :=
  PS.imp (ps_setLc hc hN hy hyl hsw hi ok hg ht he hs) fun E σ H h => by
    obtain ⟨F, cs, ρ, f, s, re, hw, pe⟩ := h
    have h2 : lE X.K W (wComp wi gd wt we (own.map (·.2))) σ H (fun x H1 => gName i x σ H1 E.nx) := ⟨F, cs, ρ, _, _, s, re, hw, fun H1 cs1 v d s1 r1 h1 => pe.nx H1 cs1 _ _ s1 ((re.mono s1.gr).set r1 i) h1, pe.px re⟩
    exact lc_ok gk h2 in
#guard_msgs (pass all) in open Nat
end
section
variable {ρ : DL.Env} {cs : Cs} {P : DP} {Z : XZ} {wa wb we : DL.WE} {w : WA} {wt : WT}
theorem r_isi {d : D} {n : String} {k : Bool} (e : isiD d n = some k) (h : P (.bl k) cs) : oIsi [d, .opq (.ty n)] cs P := by
  unfold oIsi; simp only [e]; exact h in
#guard_msgs (pass all) in open Nat
theorem r_isiT {d : D} {n : String} (e : isiD d n = some true) (h : P (.bl true) cs) : oIsi [d, .opq (.ty n)] cs P := r_isi e h
theorem r_isiF {d : D} {n : String} (e : isiD d n = some false) (h : P (.bl false) cs) : oIsi [d, .opq (.ty n)] cs P := r_isi e h
theorem r_isiTT {d : D} {ts : List D} {t : String} {ns : List String} (e : tyS d = some t) (e2 : tyNames ts = some ns) (e3 : (ns.any fun n => isT t n) = true) (h : P (.bl true) cs) : oIsiT [d, .tup ts] cs P := by
  unfold oIsiT; simp only [e, e2, e3]; exact h in
#guard_msgs (pass all) in open Nat
theorem r_isiTF {d : D} {ts : List D} {t : String} {ns : List String} (e : tyS d = some t) (e2 : tyNames ts = some ns) (e3 : (ns.any fun n => isT t n) = false) (h : P (.bl false) cs) : oIsiT [d, .tup ts] cs P := by
  unfold oIsiT; simp only [e, e2, e3]; exact h in
#guard_msgs (pass all) in open Nat
theorem r_all {xs : List D} {ns : List Bool} (e : blsOf xs = some ns) (h : P (.bl (ns.all id)) cs) : oAll [.lst xs] cs P := by
  unfold oAll; simp only [e]; exact h in
#guard_msgs (pass all) in open Nat
theorem r_tupleL {xs : List D} (h : P (.tup xs) cs) : oTuple [.lst xs] cs P := h
theorem r_tupleT {xs : List D} (h : P (.tup xs) cs) : oTuple [.tup xs] cs P := h
theorem r_catT {xs ys : List D} (hl : xs.length + ys.length ≤ 100000) (h : P (.tup (xs ++ ys)) cs) : oCatT (.tup xs) (.tup ys) cs P := ⟨hl, h⟩
theorem r_sl {o : D → Option Int → Option Int → Cs → DP → Prop} {wl wh : WO} (h : we ρ cs (fun x cs1 => wl ρ cs1 (fun l cs2 => wh ρ cs2 (fun u cs3 => o x l u cs3 P) Z) Z) Z) : wSl o we wl wh ρ cs P Z := h
theorem r_noPart {R : Option Int → Cs → Prop} (h : R none cs) : wNoPart ρ cs R Z := h
theorem r_part {R : Option Int → Cs → Prop} (h : we ρ cs (fun x cs1 => match x with | .int i => R (some i) cs1 | _ => False) Z) : wPart we ρ cs R Z := h
theorem r_slL {xs : List D} {lo hi : Option Int} (h : P (.lst (DL.cutD xs lo hi)) cs) : oSlL (.lst xs) lo hi cs P := h
theorem r_slT {xs : List D} {lo hi : Option Int} (h : P (.tup (DL.cutD xs lo hi)) cs) : oSlT (.tup xs) lo hi cs P := h
theorem r_zipL {xs ys : List D} {R : List D → Cs → Prop} (h : w ρ cs (fun ds cs1 => match ds with | [.lst xs, .lst ys] => R (List.zipWith (fun d e => D.tup [d, e]) xs ys) cs1 | [.tup xs, .tup ys] => R (List.zipWith (fun d e => D.tup [d, e]) xs ys) cs1 | _ => False) Z) : iZp w ρ cs R Z := h
theorem r_yes {R : Bool → Cs → Prop} (h : R true cs) : wYes ρ cs R Z := h
theorem r_comp {wi : WI} {g : WG} {vs : List Nat} (h : wi ρ cs (fun xs cs1 => xs.length ≤ 100000 ∧ compW g wt we xs (wipeD ρ vs) cs1 [] (fun ds cs2 => P (.lst ds) cs2)) Z) : wComp wi g wt we vs ρ cs P Z := h
/-- .. by an invariant: the place, what is made so far, the things that change -/
theorem r_compI {g : WG} {R : List D → Cs → Prop} (I : Nat → List D → Cs → Prop) : ∀ (xs acc : List D) (k : Nat) {cs : Cs}, I k acc cs →
    (∀ i d acc cs (N : List D → Cs → Prop), xs[i]? = some d → I (k + i) acc cs → (∀ acc' cs', I (k + i + 1) acc' cs' → N acc' cs') → g d ρ fun ρ1 => wt ρ1 cs (fun b cs1 => (b = true → we ρ1 cs1 (fun y cs2 => N (acc ++ [y]) cs2) Z0) ∧ (b = false → N acc cs1)) Z0) →
    (∀ acc cs, I (k + xs.length) acc cs → R acc cs) → compW g wt we xs ρ cs acc R
  | [], acc, k, cs, h0, hs, hd => hd acc cs h0
  | d :: r, acc, k, cs, h0, hs, hd => by
    refine hs 0 d acc cs (fun acc' cs' => compW g wt we r ρ cs' acc' R) rfl h0 fun acc' cs' h1 => r_compI I r acc' (k + 1) h1 (fun i d acc cs N e hi hn => ?_) (fun acc cs h => ?_)
    · have e1 : k + (i + 1) = k + 1 + i := by omega
      refine hs (i + 1) d acc cs N e (by rw [e1]; exact hi) fun acc' cs' hh => hn acc' cs' (by rw [← e1]; exact hh)
    · refine hd acc cs ?_
      have e1 : k + (d :: r).length = k + 1 + r.length := by rw [List.length_cons]; omega
      rw [e1]; exact h in
#guard_msgs (pass all) in open Nat
theorem r_comp0 {g : WG} {R : List D → Cs → Prop} (I : Nat → List D → Cs → Prop) {xs : List D} (h0 : I 0 [] cs)
    (hs : ∀ i d acc cs (N : List D → Cs → Prop), xs[i]? = some d → I i acc cs → (∀ acc' cs', I (i + 1) acc' cs' → N acc' cs') → g d ρ fun ρ1 => wt ρ1 cs (fun b cs1 => (b = true → we ρ1 cs1 (fun y cs2 => N (acc ++ [y]) cs2) Z0) ∧ (b = false → N acc cs1)) Z0)
    (hd : ∀ acc cs, I xs.length acc cs → R acc cs) : compW g wt we xs ρ cs [] R :=
  r_compI I xs [] 0 h0 (fun i d acc cs N e hi hn => hs i d acc cs N e (by rw [Nat.zero_add] at hi; exact hi) (by rw [Nat.zero_add] at hn; exact hn)) (fun acc cs h => hd acc cs (by rw [Nat.zero_add] at h; exact h)) in
#guard_msgs (pass all) in open Nat
theorem take_more {α : Type} {l : List α} {i : Nat} {x : α} (h : l[i]? = some x) : l.take (i + 1) = l.take i ++ [x] := by
  obtain ⟨h1, h2⟩ := List.getElem?_eq_some_iff.mp h
  rw [List.take_succ, h]
  rfl in
#guard_msgs (pass all) in open Nat
/-- each item that keeps p makes its f; nothing else changes -/
theorem r_compFM {g : WG} {R : List D → Cs → Prop} (p : D → Bool) (f : D → D) {xs : List D}
    (hs : ∀ d (N : DP) (N' : Cs → Prop), d ∈ xs → (p d = true → N (f d) cs) → (p d = false → N' cs) → g d ρ fun ρ1 => wt ρ1 cs (fun b cs1 => (b = true → we ρ1 cs1 N Z0) ∧ (b = false → N' cs1)) Z0)
    (hd : R ((xs.filter p).map f) cs) : compW g wt we xs ρ cs [] R := by
  refine r_comp0 (fun i acc cs' => acc = ((xs.take i).filter p).map f ∧ cs' = cs) ⟨rfl, rfl⟩ ?_ ?_
  · rintro i d acc cs' N e ⟨rfl, rfl⟩ hN
    refine hs d _ _ (List.mem_of_getElem? e) (fun h => hN _ _ ⟨?_, rfl⟩) (fun h => hN _ _ ⟨?_, rfl⟩)
    · rw [take_more e, List.filter_append, List.map_append, List.filter_cons_of_pos h]; rfl
    · rw [take_more e, List.filter_append, List.filter_cons_of_neg (by rw [h]; decide), List.filter_nil, List.append_nil]
  · rintro acc cs' ⟨rfl, rfl⟩
    rw [List.take_length]
    exact hd in
#guard_msgs (pass all) in open Nat
theorem r_compM {g : WG} {R : List D → Cs → Prop} (f : D → D) {xs : List D}
    (hs : ∀ d (N : DP) (N' : Cs → Prop), d ∈ xs → N (f d) cs → g d ρ fun ρ1 => wt ρ1 cs (fun b cs1 => (b = true → we ρ1 cs1 N Z0) ∧ (b = false → N' cs1)) Z0)
    (hd : R (xs.map f) cs) : compW g wt we xs ρ cs [] R := by
  refine r_compFM (fun _ => true) f (fun d N N' h h1 h2 => hs d N N' h (h1 rfl)) ?_
  rw [List.filter_eq_self.mpr fun _ _ => rfl]
  exact hd in
#guard_msgs (pass all) in open Nat
end
end DL
namespace DL
open PySem PySem.Spec PyProof.Rows L2
/-- what the bag holds: the script's copy, how many were taken, what is left of one, a number that goes round, a count -/
def BagOk (m : MO) : Prop := ∃ (cells : List Int) (k : Nat) (rest seed cnt : Int), m = .lst [.lst (cells.map D.int), .int (k : Int), .int rest, .int seed, .int cnt] ∧ 0 ≤ rest ∧ 0 ≤ seed ∧ seed < 2147483629
def BagIn (p : Addr) (cs : Cs) : Prop := ∃ b, look p cs = some b ∧ BagOk b
theorem BagIn.put {p : Addr} {cs : Cs} {b : MO} (h : BagIn p cs) (hb : BagOk b) : BagIn p (put p b cs) := by
  obtain ⟨b0, e, _⟩ := h
  exact ⟨b, look_put e, hb⟩ in
#guard_msgs (pass all) in open Nat
structure BagStep (p : Addr) (cs cs' : Cs) : Prop where
  bag : BagIn p cs'
  eq : ∃ b, cs' = put p b cs
theorem BagStep.trans {p : Addr} {c0 c1 c2 : Cs} (a : BagStep p c0 c1) (b : BagStep p c1 c2) : BagStep p c0 c2 := by
  obtain ⟨b1, e1⟩ := a.eq
  obtain ⟨b2, e2⟩ := b.eq
  exact ⟨b.bag, b2, by rw [e2, e1, put_put]⟩ in
#guard_msgs (pass all) in open Nat
theorem BagStep.look {p q : Addr} {cs cs' : Cs} (a : BagStep p cs cs') (h : q ≠ p) : look q cs' = look q cs := by
  obtain ⟨b, e⟩ := a.eq
  rw [e, look_put_ne h] in
#guard_msgs (pass all) in open Nat
mutual
/-- known data: nothing opaque, no dict with tuple keys -/
def knD : D → Bool
  | .tup xs => knL xs
  | .lst xs => knL xs
  | .opq _ => false
  | .dct _ => false
  | .ins _ _ => false
  | .xcp _ _ _ _ => false
  | _ => true
def knL : List D → Bool
  | [] => true
  | d :: ds => knD d && knL ds
end
theorem knL_mem : ∀ {ds : List D} {d : D}, knL ds = true → d ∈ ds → knD d = true
  | [], d, _, h => by cases h
  | e :: ds, d, hk, h => by
    simp only [knL, Bool.and_eq_true] at hk
    rcases List.mem_cons.mp h with z | z
    · rw [z]; exact hk.1
    · exact knL_mem hk.2 z
def wholeD : D → Bool
  | .int _ => true
  | _ => false
def partD : D → Bool
  | .tup [.int a, .int b] => decide (0 < b) && decide (Nat.gcd a.natAbs b.natAbs = 1)
  | _ => false
theorem partD_dR (r : Rat) : partD (dR r) = true := by
  have h1 := den_pos r
  have h2 : Nat.gcd r.num.natAbs (r.den : Int).natAbs = 1 := by rw [Int.natAbs_natCast]; exact r.reduced
  show (decide _ && decide _) = true
  rw [decide_eq_true h1, decide_eq_true h2]; rfl in
#guard_msgs (pass all) in open Nat
theorem partD_len {xs : List D} (h : xs.length ≠ 2) : partD (.tup xs) = false := by
  unfold partD
  split
  · rename_i e
    cases e
    exact absurd rfl h
  · rfl in
#guard_msgs (pass all) in open Nat
def dB (l t w h : Rat) : D := .tup [dR l, dR t, dR w, dR h]
theorem partD_inv {d : D} (h : partD d = true) : ∃ r : Rat, d = dR r := by
  unfold partD at h
  split at h
  · rename_i a b
    rw [Bool.and_eq_true] at h
    have h1 := of_decide_eq_true h.1
    have h2 := of_decide_eq_true h.2
    refine ⟨⟨a, b.toNat, by omega, ?_⟩, ?_⟩
    · have e : b.toNat = b.natAbs := by omega
      rw [e]; exact h2
    · unfold dR
      have e : ((b.toNat : Nat) : Int) = b := by omega
      rw [e]
  · cases h in
#guard_msgs (pass all) in open Nat
def isNonD : D → Bool
  | .non => true
  | .opq v => decide (v = .non)
  | _ => false
def oIsN : DO2 := fun x y cs P => match y with
  | .non => P (.bl (isNonD x)) cs
  | _ => False
def oNotN : DO2 := fun x y cs P => match y with
  | .non => P (.bl (!isNonD x)) cs
  | _ => False
section
variable {X : Cx} {W : WX} {K : PySem.W.Frag} {pos : Pos} {a b : Expr} {wa wb : DL.WE}
theorem isNon_ok {G : Hp} {x : V} {d : D} (r : Rep K G x d) : decide (x = .non) = isNonD d := by
  cases r <;> first | rfl | simp [isNonD] in
#guard_msgs (pass all) in open Nat
theorem adq_isN : Adq K (fun x y H Q => y = .non ∧ Q (.bl (decide (x = .non))) H) oIsN := fun F cs H x y dx dy P Q s rx ry ho pe => by
  cases dy <;> try exact ho.elim
  cases ry
  exact ⟨rfl, by rw [isNon_ok rx]; exact pe H cs _ _ s (.bl _) ho⟩
theorem d_is (ha : DE X W a wa) (hb : DE X W b wb) : DE X W (.Compare a [.Is] [b] pos) (wOp oIsN wa wb) := d_cmp op_isN adq_isN ha hb (nomark _)
theorem dt_is (ha : DE X W a wa) (hb : DE X W b wb) : DT X W (.Compare a [.Is] [b] pos) (wTest (wOp oIsN wa wb)) := dt_cmp op_isN adq_isN ha hb (nomark _)
end
section
variable {cs : Cs} {P : DP} {d : D}
theorem r_isN (h : P (.bl (isNonD d)) cs) : oIsN d .non cs P := h
theorem r_notN (h : P (.bl (!isNonD d)) cs) : oNotN d .non cs P := h
theorem r_eqBs {k : Bool} (h : P (.bl true) cs) : oEq (.bl k) (.bl k) cs P := r_eqB (by rw [beq_self_eq_true]; exact h)
theorem r_neBs {k : Bool} (h : P (.bl false) cs) : oNe (.bl k) (.bl k) cs P := r_neB (by rw [beq_self_eq_true]; exact h)
end
def oIsB : DO2 := fun x y cs P => match x, y with
  | .bl a, .bl b => P (.bl (decide (a = b))) cs
  | _, _ => False
def oNotB : DO2 := fun x y cs P => match x, y with
  | .bl a, .bl b => P (.bl (!decide (a = b))) cs
  | _, _ => False
section
variable {cs : Cs} {P : DP} {k l : Bool}
theorem r_isBs (h : P (.bl true) cs) : oIsB (.bl k) (.bl k) cs P := by
  show P (.bl (decide (k = k))) cs
  rw [decide_eq_true rfl]; exact h in
#guard_msgs (pass all) in open Nat
theorem r_notBs (h : P (.bl false) cs) : oNotB (.bl k) (.bl k) cs P := by
  show P (.bl (!decide (k = k))) cs
  rw [decide_eq_true rfl]; exact h in
#guard_msgs (pass all) in open Nat
theorem r_isB (h : P (.bl (decide (k = l))) cs) : oIsB (.bl k) (.bl l) cs P := h
theorem r_notB (h : P (.bl (!decide (k = l))) cs) : oNotB (.bl k) (.bl l) cs P := h
end
theorem atD_mem {xs : List D} {r : Int} (h0 : 0 ≤ r) (h1 : r < xs.length) : ∃ x, x ∈ xs ∧ atD xs r = some x := by
  obtain ⟨n, rfl⟩ := Int.eq_ofNat_of_zero_le h0
  have hr : n < xs.length := by omega
  exact ⟨xs[n], List.getElem_mem _, atI_nat (List.getElem?_eq_getElem hr)⟩ in
#guard_msgs (pass all) in open Nat
mutual
theorem eqD_refl : ∀ (d : D) (n : Nat), plD n d = true → eqD d d = true
  | .non, _, _ => rfl
  | .bl b, _, _ => by simp [eqD]
  | .int i, _, _ => by simp [eqD]
  | .str x, _, _ => by simp [eqD]
  | .tup xs, 0, h => by simp [plD] at h
  | .lst xs, 0, h => by simp [plD] at h
  | .tup xs, n + 1, h => by simp only [eqD]; exact eqL_refl xs n (plD_t h)
  | .lst xs, n + 1, h => by simp only [eqD]; exact eqL_refl xs n (plD_l h)
  | .dic _, n, h => by cases n <;> simp [plD] at h
  | .dct _, n, h => by cases n <;> simp [plD] at h
  | .ins _ _, n, h => by cases n <;> simp [plD] at h
  | .xcp _ _ _ _, n, h => by cases n <;> simp [plD] at h
  | .opq _, n, h => by cases n <;> simp [plD] at h
theorem eqL_refl : ∀ (d : List D) (n : Nat), plL n d = true → eqL d d = true
  | [], _, _ => rfl
  | d :: ds, n, h => by
    simp only [plL, Bool.and_eq_true] at h
    simp only [eqL, Bool.and_eq_true]
    exact ⟨eqD_refl d n h.1, eqL_refl ds n h.2⟩
end
mutual
theorem plD_mono : ∀ (d : D) {n m : Nat}, plD n d = true → n ≤ m → plD m d = true
  | .non, n, m, _, _ => by cases m <;> rfl
  | .bl b, n, m, _, _ => by cases m <;> rfl
  | .int i, n, m, _, _ => by cases m <;> rfl
  | .str x, n, m, _, _ => by cases m <;> rfl
  | .tup xs, 0, m, h, _ => by simp [plD] at h
  | .lst xs, 0, m, h, _ => by simp [plD] at h
  | .tup xs, n + 1, 0, h, l => by omega
  | .lst xs, n + 1, 0, h, l => by omega
  | .tup xs, n + 1, m + 1, h, l => plD_tI (plL_mono xs (plD_t h) (by omega)) (plD_tn h)
  | .lst xs, n + 1, m + 1, h, l => plD_lI (plL_mono xs (plD_l h) (by omega)) (plD_ln h)
  | .dic _, n, m, h, _ => by cases n <;> simp [plD] at h
  | .dct _, n, m, h, _ => by cases n <;> simp [plD] at h
  | .ins _ _, n, m, h, _ => by cases n <;> simp [plD] at h
  | .xcp _ _ _ _, n, m, h, _ => by cases n <;> simp [plD] at h
  | .opq _, n, m, h, _ => by cases n <;> simp [plD] at h
theorem plL_mono : ∀ (d : List D) {n m : Nat}, plL n d = true → n ≤ m → plL m d = true
  | [], _, _, _, _ => rfl
  | d :: ds, n, m, h, l => by
    simp only [plL, Bool.and_eq_true] at h ⊢
    exact ⟨plD_mono d h.1 l, plL_mono ds h.2 l⟩
end
theorem plL_mem : ∀ {ds : List D} {d : D} {n : Nat}, plL n ds = true → d ∈ ds → plD n d = true
  | [], d, _, _, h => by cases h
  | e :: ds, d, n, hk, h => by
    simp only [plL, Bool.and_eq_true] at hk
    rcases List.mem_cons.mp h with z | z
    · rw [z]; exact hk.1
    · exact plL_mem hk.2 z
theorem plL_of : ∀ {ds : List D} {n : Nat}, (∀ d ∈ ds, plD n d = true) → plL n ds = true
  | [], _, _ => rfl
  | d :: ds, n, h => by
    simp only [plL, Bool.and_eq_true]
    exact ⟨h d (List.mem_cons_self ..), plL_of fun e he => h e (List.mem_cons_of_mem _ he)⟩
theorem r_eqSelf {cs : Cs} {P : DP} {d : D} (hd : plD 20 d = true) (h : P (.bl true) cs) : oEq d d cs P := ⟨hd, hd, by rw [eqD_refl d 20 hd]; exact h⟩
theorem vacF {P : Program} {w : World} {K : PySem.W.Frag} {mg : Str → Option Value} {base : Heap} {CX : CXT} {k : Nat} {f : Addr} {fd : FuncData} {ps : List Str} {n : Nat} : FnOk P w K mg base CX k f fd ps (spL K n fun _ _ _ _ => False) :=
  ⟨fun _ _ _ _ h => by obtain ⟨_, _, _, _, _, _, _, _, z, _⟩ := h; exact z.elim, fun _ _ _ _ _ _ _ _ _ _ _ _ _ h => by obtain ⟨_, _, _, _, _, _, _, _, z, _⟩ := h; exact z.elim⟩ in
#guard_msgs (pass all) in open Nat
end DL
namespace DL
open PySem PySem.Spec PyProof.Rows L2
def del (p : Addr) : Cs → Cs
  | [] => []
  | (a, x) :: r => if a = p then r else (a, x) :: del p r
theorem mem_del {p a : Addr} {x : MO} : ∀ {cs : Cs}, (a, x) ∈ del p cs → (a, x) ∈ cs
  | [], h => h
  | (b, y) :: r, h => by
    unfold del at h
    split at h
    · exact List.mem_cons_of_mem _ h
    · rcases List.mem_cons.mp h with e | e
      · rw [e]; exact List.mem_cons_self ..
      · exact List.mem_cons_of_mem _ (mem_del e)
theorem adr_del {p a : Addr} {cs : Cs} (h : a ∈ adr (del p cs)) : a ∈ adr cs := by
  obtain ⟨⟨b, x⟩, hm, e⟩ := List.mem_map.mp h
  exact List.mem_map.mpr ⟨(b, x), mem_del hm, e⟩ in
#guard_msgs (pass all) in open Nat
theorem nd_del {p : Addr} : ∀ {cs : Cs}, (adr cs).Nodup → (adr (del p cs)).Nodup ∧ p ∉ adr (del p cs)
  | [], h => ⟨h, fun z => by cases z⟩
  | (a, x) :: r, h => by
    obtain ⟨n1, n2⟩ := List.nodup_cons.mp (show (a :: adr r).Nodup from h)
    obtain ⟨i1, i2⟩ := nd_del (p := p) n2
    unfold del
    split
    · rename_i e
      rw [← e]
      exact ⟨n2, n1⟩
    · rename_i e
      refine ⟨List.nodup_cons.mpr ⟨fun z => n1 (adr_del z), i1⟩, fun z => ?_⟩
      rcases List.mem_cons.mp (show p ∈ a :: adr (del p r) from z) with z | z
      · exact e z.symm
      · exact i2 z in
#guard_msgs (pass all) in open Nat
theorem Sta.frz {K : PySem.W.Frag} {F G0 H : Hp} {cs : Cs} {p : Addr} {m : MO} (s : Sta K F G0 cs H) (hl : DL.look p cs = some m) : Sta K F G0 (del p cs) H ∧ Ex (pur F cs H) (pur F (del p cs) H) ∧ ∃ o, pur F (del p cs) H p = some o ∧ MoOk K (pur F (del p cs) H) m o := by
  have g : Ex (pur F cs H) (pur F (del p cs) H) := fun b u e => by
    obtain ⟨e1, e2, e3⟩ := pur_of e
    rw [pur_at e2 fun z => e3 (adr_del z)]; exact e1
  obtain ⟨n1, n2⟩ := nd_del (p := p) s.nd
  have hp : p ∈ adr cs := List.mem_map.mpr ⟨(p, m), look_mem hl, rfl⟩
  refine ⟨⟨s.fr, s.gr.trans g, n1, fun a h => s.ap a (adr_del h), fun a m' h => ?_, s.ft⟩, g, ?_⟩
  · obtain ⟨u, hu, r⟩ := s.ow a m' (mem_del h)
    exact ⟨u, hu, r.mono g⟩
  · obtain ⟨u, hu, r⟩ := s.ow p m (look_mem hl)
    exact ⟨u, by rw [pur_at (s.ap p hp) n2]; exact hu, r.mono g⟩ in
#guard_msgs (pass all) in open Nat
section
variable {X : Cx} {W : WX} {K : PySem.W.Frag} {σ : L2.St} {H : Hp} {pos : Pos} {a b c e : Expr} {es : List Expr} {wa wb wc we : DL.WE} {w wk : WA}
def wFrz (we : DL.WE) : DL.WE := fun ρ cs P Z => we ρ cs (fun d cs1 => ∃ p xs, d = .opq (.ref p) ∧ look p cs1 = some (.lst xs) ∧ P (.lst xs) (del p cs1)) Z
mutual
inductive Lend (cs : Cs) : D → D → Prop
  | same (d : D) : Lend cs d d
  | at_ {p : Addr} {xs ys : List D} : look p cs = some (.lst xs) → LendL cs xs ys → Lend cs (.opq (.ref p)) (.lst ys)
  | tup {xs ys : List D} : LendL cs xs ys → Lend cs (.tup xs) (.tup ys)
  | lst {xs ys : List D} : LendL cs xs ys → Lend cs (.lst xs) (.lst ys)
inductive LendL (cs : Cs) : List D → List D → Prop
  | nil : LendL cs [] []
  | cons {x y : D} {xs ys : List D} : Lend cs x y → LendL cs xs ys → LendL cs (x :: xs) (y :: ys)
end
theorem LendL.self (cs : Cs) : ∀ xs, LendL cs xs xs
  | [] => .nil
  | x :: xs => .cons (.same x) (LendL.self cs xs)
inductive LendE (cs : Cs) : DL.Env → DL.Env → Prop
  | nil : LendE cs [] []
  | none {ρ ρ' : DL.Env} {x : Option D} : LendE cs ρ ρ' → LendE cs (x :: ρ) (none :: ρ')
  | some {ρ ρ' : DL.Env} {d d' : D} : Lend cs d d' → LendE cs ρ ρ' → LendE cs (some d :: ρ) (some d' :: ρ')
def flatD : D → Bool
  | .non => true
  | .bl _ => true
  | .int _ => true
  | .str _ => true
  | _ => false
section
variable {F G0 : Hp} {cs : Cs}
theorem pur_nil (s : Sta K F G0 cs H) : Ex (pur F cs H) (pur F [] H) := fun b u e => by
  obtain ⟨e1, e2, e3⟩ := pur_of e
  rw [pur_at e2 (fun z => by cases z)]; exact e1
mutual
theorem Lend.rep (s : Sta K F G0 cs H) : ∀ {d d' : D} {v : V}, Lend cs d d' → Rep K (pur F cs H) v d → Rep K (pur F [] H) v d'
  | _, _, v, .same d, r => r.mono (pur_nil s)
  | _, _, v, .at_ (p := p) hl l, r => by
    cases r
    obtain ⟨o, e, m⟩ := s.look hl
    have hp : p ∈ adr cs := List.mem_map.mpr ⟨(p, _), look_mem hl, rfl⟩
    cases o <;> try exact m.elim
    exact .lst (SqL.of (by rw [pur_at (s.ap p hp) (fun z => by cases z)]; exact e)) (LendL.rep s l m)
  | _, _, v, .tup l, r => by
    cases r with
    | tup h r => exact .tup (ex_t (pur_nil s) h) (LendL.rep s l r)
  | _, _, v, .lst l, r => by
    cases r with
    | lst h r => exact .lst (ex_l (pur_nil s) h) (LendL.rep s l r)
theorem LendL.rep (s : Sta K F G0 cs H) : ∀ {d d' : List D} {v : List V}, LendL cs d d' → RepL K (pur F cs H) v d → RepL K (pur F [] H) v d'
  | _, _, _, .nil, r => by cases r; exact .nil
  | _, _, _, .cons l ls, r => by
    cases r with
    | cons r rs => exact .cons (Lend.rep s l r) (LendL.rep s ls rs)
end
end
theorem LendE.rep {F G0 : Hp} {cs : Cs} (s : Sta K F G0 cs H) : ∀ {ρ ρ' : DL.Env} {σ : L2.St}, LendE cs ρ ρ' → RepE K (pur F cs H) σ ρ → RepE K (pur F [] H) σ ρ'
  | _, _, _, .nil, r => by cases r; exact .nil
  | _, _, _, .none l, r => by
    cases r with
    | cons q r => exact .cons .skip (LendE.rep s l r)
  | _, _, _, .some h l, r => by
    cases r with
    | cons q r =>
      cases q with
      | held q => exact .cons (.held (Lend.rep s h q)) (LendE.rep s l r) in
#guard_msgs (pass all) in open Nat
variable {x : Str} {p : Pos}
theorem d_gstr {z : Str} (hg : Gl X x) (h : ∃ t, X.mg x = some (.str z t)) (hd : (x == ("__debug__" : Str)) = false := by decide) : DE X W (.Name x pos) (wC (.str z)) := by
  obtain ⟨t, h⟩ := h
  exact d_of (pe_glob (v := .str z) hg h ⟨_, rfl⟩ hd) fun _ => .str _ in
#guard_msgs (pass all) in open Nat
theorem d_gint {i : Int} (hg : Gl X x) (h : ∃ t, X.mg x = some (.int i t)) (hd : (x == ("__debug__" : Str)) = false := by decide) : DE X W (.Name x pos) (wC (.int i)) := by
  obtain ⟨t, h⟩ := h
  exact d_of (pe_glob (v := .int i) hg h ⟨_, rfl⟩ hd) fun _ => .int _ in
#guard_msgs (pass all) in open Nat
def wChain (o o' : DO2) (wa wb wc : DL.WE) : DL.WE := fun ρ cs P Z => wa ρ cs (fun x cs1 => wb ρ cs1 (fun y cs2 => o x y cs2 fun z cs3 => match z with
  | .bl k => (k = true → wc ρ cs3 (fun u cs4 => o' y u cs4 P) Z) ∧ (k = false → P (.bl false) cs3)
  | _ => False) Z) Z
theorem chain_ok {r r' : R2} {o o' : DO2} (adq : Adq K r o) (adq' : Adq K r' o') {Q : VK} : lE K W (wChain o o' wa wb wc) σ H Q → tChain r r' (lE K W wa) (lE K W wb) (lE K W wc) σ H Q := by
  rintro ⟨F, cs, ρ, P, Z, s, re, hw, pe, px⟩
  refine ⟨F, cs, ρ, _, Z, s, re, hw, fun H1 cs1 v d s1 r1 h1 => ?_, px⟩
  refine ⟨F, cs1, ρ, _, Z, s1.self, re.mono s1.gr, h1, fun H2 cs2 v2 d2 s2 r2 h2 => ?_, px.le s1.gr⟩
  refine adq F cs2 H2 v v2 d d2 _ _ s2.self (r1.mono s2.gr) r2 h2 fun H3 cs3 v3 d3 s3 r3 h3 => ?_
  have g2 := s1.gr.trans s2.gr
  have g3 := g2.trans s3.gr
  cases d3 <;> try exact h3.elim
  rename_i k
  cases r3
  refine ⟨k, rfl, ?_⟩
  cases k with
  | true =>
    refine iteT ⟨F, cs3, ρ, _, Z, s3.self, re.mono g3, h3.1 rfl, fun H4 cs4 v4 d4 s4 r4 h4 => ?_, px.le g3⟩
    exact adq' F cs4 H4 v2 v4 d2 d4 P Q s4.self ((r2.mono s3.gr).mono s4.gr) r4 h4 (pe.le (g3.trans s4.gr))
  | false => exact iteF (pe H3 cs3 _ _ (s3.from_ g2) (.bl _) (h3.2 rfl)) in
#guard_msgs (pass all) in open Nat
theorem d_chain {op op' : CmpOp} {r r' : R2} {o o' : DO2} (ho : OpR X (compareOp op) r) (ho' : OpR X (compareOp op') r') (adq : Adq X.K r o) (adq' : Adq X.K r' o') (ha : DE X W a wa) (hb : DE X W b wb) (hc : DE X W c wc)
    (hm : lastMarks [op, op'] [b, c] = false) : DE X W (.Compare a [op, op'] [b, c] pos) (wChain o o' wa wb wc) := PE.imp (pe_chain ho ho' ha hb hc hm) fun _ _ _ h => chain_ok adq adq' h in
#guard_msgs (pass all) in open Nat
theorem d_chain_le_le (ha : DE X W a wa) (hb : DE X W b wb) (hc : DE X W c wc) (hm : lastMarks [.LtE, .LtE] [b, c] = false := by with_unfolding_all rfl) : DE X W (.Compare a [.LtE, .LtE] [b, c] pos) (wChain oLe oLe wa wb wc) := d_chain op_le op_le (adq_I0 fun _ _ _ => .bl _) (adq_I0 fun _ _ _ => .bl _) ha hb hc hm in
#guard_msgs (pass all) in open Nat
theorem d_chain_le_lt (ha : DE X W a wa) (hb : DE X W b wb) (hc : DE X W c wc) (hm : lastMarks [.LtE, .Lt] [b, c] = false := by with_unfolding_all rfl) : DE X W (.Compare a [.LtE, .Lt] [b, c] pos) (wChain oLe oLt wa wb wc) := d_chain op_le op_lt (adq_I0 fun _ _ _ => .bl _) (adq_I0 fun _ _ _ => .bl _) ha hb hc hm in
#guard_msgs (pass all) in open Nat
theorem RepL.strs {G : Hp} : ∀ {vs : List V} (ns : List Str), RepL K G vs (ns.map D.str) → vs = ns.map V.str
  | _, [], .nil => rfl
  | _, n :: ns, .cons h r => by
    cases h
    rw [List.map_cons, RepL.strs ns r]
def oIn : DO2 := fun x y cs P => (∃ (s : Str) (ss : List Str), x = .str s ∧ (y = .tup (ss.map D.str) ∨ y = .lst (ss.map D.str)) ∧ P (.bl (decide (s ∈ ss))) cs) ∨ (∃ (s : Int) (ss : List Int), x = .int s ∧ (y = .tup (ss.map D.int) ∨ y = .lst (ss.map D.int)) ∧ P (.bl (decide (s ∈ ss))) cs)
def oNotIn : DO2 := fun x y cs P => (∃ (s : Str) (ss : List Str), x = .str s ∧ (y = .tup (ss.map D.str) ∨ y = .lst (ss.map D.str)) ∧ P (.bl (!decide (s ∈ ss))) cs) ∨ (∃ (s : Int) (ss : List Int), x = .int s ∧ (y = .tup (ss.map D.int) ∨ y = .lst (ss.map D.int)) ∧ P (.bl (!decide (s ∈ ss))) cs)
theorem inV_str (s : Str) : ∀ ss : List Str, inV (.str s) (ss.map V.str) = decide (s ∈ ss)
  | [] => by simp [inV]
  | t :: ss => by
    have ih := inV_str s ss
    unfold inV at ih ⊢
    rw [List.map_cons, List.any_cons, ih]
    have e : eqV (.str t) (.str s) = decide (t = s) := by show (t == s) = _; rw [Bool.beq_eq_decide_eq]
    rw [e, ← Bool.decide_or]
    exact decide_eq_decide.mpr ⟨fun h => by rcases h with h | h <;> simp [h], fun h => by rcases List.mem_cons.mp h with h | h <;> simp [h]⟩ in
#guard_msgs (pass all) in open Nat
theorem inV_int (s : Int) : ∀ ss : List Int, inV (.int s) (ss.map V.int) = decide (s ∈ ss)
  | [] => by simp [inV]
  | t :: ss => by
    have ih := inV_int s ss
    unfold inV at ih ⊢
    rw [List.map_cons, List.any_cons, ih]
    have e : eqV (.int t) (.int s) = decide (t = s) := by show (t == s) = _; rw [Bool.beq_eq_decide_eq]
    rw [e, ← Bool.decide_or]
    exact decide_eq_decide.mpr ⟨fun h => by rcases h with h | h <;> simp [h], fun h => by rcases List.mem_cons.mp h with h | h <;> simp [h]⟩ in
#guard_msgs (pass all) in open Nat
theorem flat_strs : ∀ ss : List Str, (ss.map V.str).all flatV = true
  | [] => rfl
  | t :: ss => by rw [List.map_cons, List.all_cons, flat_strs ss]; rfl
theorem flat_ints : ∀ ss : List Int, (ss.map V.int).all flatV = true
  | [] => rfl
  | t :: ss => by rw [List.map_cons, List.all_cons, flat_ints ss]; rfl
theorem adq_in : Adq K (rIn K false) oIn := fun F cs H x y dx dy P Q s rx ry ho pe => by
  rcases ho with ⟨t, ss, rfl, h, q⟩ | ⟨t, ss, rfl, h, q⟩
  · cases rx
    rcases h with rfl | rfl
    · cases ry with
      | tup h r =>
        have e := r.strs ss
        subst e
        exact ⟨_, _, rfl, .inr (ex_t pur_le h), rfl, flat_strs ss, by rw [if_neg (by decide), inV_str]; exact pe H cs _ _ s (.bl _) q⟩
    · cases ry with
      | lst h r =>
        have e := r.strs ss
        subst e
        exact ⟨_, _, rfl, .inl (ex_l pur_le h), rfl, flat_strs ss, by rw [if_neg (by decide), inV_str]; exact pe H cs _ _ s (.bl _) q⟩
  · cases rx
    rcases h with rfl | rfl
    · cases ry with
      | tup h r =>
        have e := r.intsL ss
        subst e
        exact ⟨_, _, rfl, .inr (ex_t pur_le h), rfl, flat_ints ss, by rw [if_neg (by decide), inV_int]; exact pe H cs _ _ s (.bl _) q⟩
    · cases ry with
      | lst h r =>
        have e := r.intsL ss
        subst e
        exact ⟨_, _, rfl, .inl (ex_l pur_le h), rfl, flat_ints ss, by rw [if_neg (by decide), inV_int]; exact pe H cs _ _ s (.bl _) q⟩ in
#guard_msgs (pass all) in open Nat
theorem d_in (ha : DE X W a wa) (hb : DE X W b wb) (hm : behindInMarks .In b = false := by rfl) : DE X W (.Compare a [.In] [b] pos) (wOp oIn wa wb) := d_cmp op_in_seq adq_in ha hb hm in
#guard_msgs (pass all) in open Nat
def sPar3 (i j l : Nat) (w : WA) : WS := fun f ρ cs => w ρ cs (fun ds cs1 => match ds with
  | [x, y, z] => f.nx (((ρ.set i (some x)).set j (some y)).set l (some z)) cs1
  | _ => False) (fun x cs1 => f.ex x ρ cs1)
abbrev DK (X : Cx) (W : WX) (kws : List Keyword) (w : WA) : Prop := PK X kws (lA X.K W kws.length w)
theorem PK.imp {X : Cx} {e : List Keyword} {t t' : TA} (h : PK X e t) (i : ∀ σ H Q, t' σ H Q → t σ H Q) : PK X e t' := ⟨fun pos pins s σ H Q I q => h.run pos pins s σ H Q I (i σ H Q q)⟩
theorem dk_nil : DK X W [] wNil := PK.imp pk_nil fun σ H Q ⟨F, cs, ρ, P, Z, s, re, hw, pe, px⟩ => pe H cs [] [] s .nil rfl hw
theorem dk_cons {nm : Option Str} {kpos : Pos} {kws : List Keyword} (ha : DE X W e we) (hr : DK X W kws w) : DK X W (⟨nm, e, kpos⟩ :: kws) (wCons we w) := PK.imp (pk_cons ha hr) fun σ H Q h => by
  obtain ⟨F, cs, ρ, P, Z, s, re, hw, pe, px⟩ := h
  refine ⟨F, cs, ρ, _, Z, s, re, hw, fun H1 cs1 v d s1 r1 h1 => ?_, px⟩
  refine ⟨F, cs1, ρ, _, Z, s1.self, re.mono s1.gr, h1, fun H2 cs2 vs ds s2 r2 l2 h2 => ?_, px.le s1.gr⟩
  exact pe H2 cs2 _ _ (s2.from_ s1.gr) (.cons (r1.mono s2.gr) r2) (congrArg Nat.succ l2) h2 in
#guard_msgs (pass all) in open Nat
def wCallK (sp : DSp) (w wk : WA) : DL.WE := fun ρ cs P Z => w ρ cs (fun ds cs1 => wk ρ cs1 (fun zs cs2 => sp (ds ++ zs) cs2 P Z) Z) Z
/-- a call that leaves the defaults dds lacking -/
theorem d_callD {k n : Nat} {f : Addr} {fd : FuncData} {ps : List Str} {sp : DSp} {dvs : List V} {dds : List D} (F : FnOk X.prog X.w X.K X.mg X.base (L2.CX X.prog X.w) k f fd ps (spL X.K n sp)) (hr : Room k X.A) (hg : Gl X x) (hm : X.mg x = some (.ref f)) (hk : PySem.W.keepIn X.K (.ref f) = true)
    (hb : ∃ ds, Vals dvs ds ∧ Binds X.K fd ps ds) (hdd : ∀ G, RepL X.K G dvs dds) (tk : Takes X W)
    (ha : DA X W (e :: es) w) (hn : (e :: es).length + dds.length = n := by rfl) (hdb : (x == ("__debug__" : Str)) = false := by decide) (he : starEach (e :: es) X.env = (false, eval e X.env) :: starEach es X.env := by rfl) (hpl : (backTo pos (starEach es X.env)).any (·.1) = false := by rfl) :
    DE X W (.Call (.Name x p) (e :: es) [] pos) (wCall sp dds w) := by
  obtain ⟨ds, h1, h2⟩ := hb
  exact d_call F hr hg hm hk h2 h1 hdd tk ha hn hdb he hpl in
#guard_msgs (pass all) in open Nat
end
section
variable {X : Cx} {W : WX} {K : PySem.W.Frag} {e tg : Expr} {we : DL.WE}
def iAnyD (we : DL.WE) : WI := fun ρ cs P Z => we ρ cs (fun d cs1 => match d with
  | .lst xs => P xs cs1
  | .tup xs => P xs cs1
  | _ => False) Z
theorem sum_tupG {prog : Program} {w : World} {A : Around} {E : Value → Shared → Prop} {s : Shared} {l : Addr} {xs : Array (Int × Tok)} {Q : Value → Shared → Prop} (hh : A.handled = none) (hT : s.heap.IsTuple l (intItems xs))
    (h : ∀ h' tk t', (∀ b o, s.heap.get? b = some o → h'.get? b = some o) → Q (.int (preSum (numAt xs) xs.size) t') { s with heap := h', toks := tk }) :
    wpAny (model prog w) A (call (.builtin "sum") [.ref l]) Q E s := by
  have hlt : l < s.heap.objs.size := by obtain ⟨_, e, _⟩ := hT; exact Heap.lt_size e
  refine call_sum_walkG (wpAny_pyIter_tuple hT ?_)
  refine ⟨_, [_, l], [_], _, _, _, numAt xs, rfl, Walks.tuple (A := A.in1) hh _ l (Nat.ne_of_lt hlt) (intItems xs), ⟨⟨_, Heap.get?_push_size _ rfl, rfl, rfl⟩, hT.push _⟩, fun c hc => ?_, (fun _ _ => intItems_at), fun h' tk t' hk => ?_⟩
  · show c < (s.heap.push _).objs.size
    rw [Heap.size_push]
    rcases List.mem_cons.mp hc with rfl | hc
    · exact Nat.lt_succ_self _
    · rw [List.mem_singleton.mp hc]; exact Nat.lt_succ_of_lt hlt
  · have := h h' tk t' (fun b o e => by
      refine hk b o (fun hm => ?_) (Heap.get?_push_of_some _ e)
      exact absurd ((List.mem_singleton.mp hm) ▸ Heap.lt_size e) (Nat.lt_irrefl _))
    simpa [intItems] using this in
#guard_msgs (pass all) in open Nat
def rSumA (K : PySem.W.Frag) : List V → Hp → VK → Prop := fun vs H Q => ∃ (a : Addr) (ns : List Int), vs = [V.ref a] ∧ (SqL K H a (ns.map V.int) ∨ SqT K H a (ns.map V.int)) ∧ Q (.int ns.sum) H
theorem cr_sumA (hc : X.calm = true) : CallR X (.builtin "sum") (rSumA X.K) := by
  intro pins s σ H vs us Q I r h
  obtain ⟨a, ns, rfl, hs, q⟩ := h
  rw [Vals.ref1 r]
  rcases hs with hs | hs
  · obtain ⟨its, rv, hl, _⟩ := I.list hs
    exact sum_raw (I.ok.hd hc) hl.isList rv.ints fun h' tk t' hk => ⟨.int _, H, I.kept hk, ⟨_, rfl⟩, q⟩
  · obtain ⟨its, rv, hl, _⟩ := I.tuple hs
    have hi := rv.ints
    obtain ⟨xs, e⟩ := hi.allInts.items
    have hn : numsOf (intItems xs).toList = ns := by rw [← e]; exact hi.numsOf
    rw [nums_intItems] at hn
    have hl' : s.heap.IsTuple a its.toArray := hl
    rw [e] at hl'
    refine sum_tupG (I.ok.hd hc) hl' fun h' tk t' hk => ?_
    rw [preSum_eq, List.take_of_length_le (by simp), hn]
    exact ⟨.int _, H, I.kept hk, ⟨_, rfl⟩, q⟩ in
#guard_msgs (pass all) in open Nat
def oSumA : DOn := fun ds cs P => ∃ ns : List Int, (ds = [.lst (ns.map D.int)] ∨ ds = [.tup (ns.map D.int)]) ∧ P (.int ns.sum) cs
theorem adq_sumA : AdqN K (rSumA K) oSumA := fun F cs H xs ds P Q s r ho pe => by
  obtain ⟨ns, h, q⟩ := ho
  rcases h with rfl | rfl
  · cases r with
    | cons r1 r2 =>
      cases r2
      cases r1 with
      | lst h r =>
        have e2 := RepL.intsL ns r
        subst e2
        exact ⟨_, ns, rfl, .inl (ex_l pur_le h), pe H cs _ _ s (.int _) q⟩
  · cases r with
    | cons r1 r2 =>
      cases r2
      cases r1 with
      | tup h r =>
        have e2 := RepL.intsL ns r
        subst e2
        exact ⟨_, ns, rfl, .inr (ex_t pur_le h), pe H cs _ _ s (.int _) q⟩ in
#guard_msgs (pass all) in open Nat
end
section
variable {ρ : DL.Env} {cs : Cs} {P : DP} {Z : XZ} {wa wb wc we : DL.WE} {w wk : WA} {d : D} {p : Addr} {xs : List D} {f : Fin}
theorem look_hd {m : MO} : look p ((p, m) :: cs) = some m := by unfold look; rw [if_pos rfl]
theorem put_hd {m m' : MO} : put p m' ((p, m) :: cs) = (p, m') :: cs := by unfold put; rw [if_pos rfl]
theorem del_hd {m : MO} : del p ((p, m) :: cs) = cs := by unfold del; rw [if_pos rfl]
theorem r_frz (h : we ρ cs (fun d cs1 => ∃ p xs, d = .opq (.ref p) ∧ look p cs1 = some (.lst xs) ∧ P (.lst xs) (del p cs1)) Z) : wFrz we ρ cs P Z := h
theorem r_frzH (h : P (.lst xs) cs) : ∃ q ys, D.opq (.ref p) = .opq (.ref q) ∧ look q ((p, MO.lst xs) :: cs) = some (.lst ys) ∧ P (.lst ys) (del q ((p, MO.lst xs) :: cs)) := ⟨p, xs, rfl, look_hd, by rw [del_hd]; exact h⟩
theorem r_appendH (hz : xs.length < 100000) (h : P .non ((p, .lst (xs ++ [d])) :: cs)) : oAppend (.opq (.ref p)) [d] ((p, .lst xs) :: cs) P := r_append look_hd hz (by rw [put_hd]; exact h)
theorem BagIn.cons {q : Addr} {m : MO} (h : BagIn p cs) (hq : q ∉ adr cs) : BagIn p ((q, m) :: cs) := by
  obtain ⟨b, e, hb⟩ := h
  refine ⟨b, ?_, hb⟩
  unfold look
  rw [if_neg fun z => hq ?_]
  · exact e
  · rw [z]; exact List.mem_map.mpr ⟨(p, b), look_mem e, rfl⟩ in
#guard_msgs (pass all) in open Nat
theorem r_isMH {R : Prop} (h : R) : isL (.opq (.ref p)) ((p, .lst xs) :: cs) ∧ R := r_isM look_hd h
theorem r_lstM (h : w ρ cs (fun ds cs1 => ∀ p, p ∉ adr cs1 → P (.opq (.ref p)) ((p, .lst ds) :: cs1)) Z) : wLstM w ρ cs P Z := h
theorem r_chain {o o' : DO2} (h : wa ρ cs (fun x cs1 => wb ρ cs1 (fun y cs2 => o x y cs2 fun z cs3 => match z with
  | .bl k => (k = true → wc ρ cs3 (fun u cs4 => o' y u cs4 P) Z) ∧ (k = false → P (.bl false) cs3)
  | _ => False) Z) Z) : wChain o o' wa wb wc ρ cs P Z := h
theorem r_par3 {i j l : Nat} (h : w ρ cs (fun ds cs1 => match ds with
  | [x, y, z] => f.nx (((ρ.set i (some x)).set j (some y)).set l (some z)) cs1
  | _ => False) (fun x cs1 => f.ex x ρ cs1)) : sPar3 i j l w f ρ cs := h
theorem r_callK {sp : DSp} (h : w ρ cs (fun ds cs1 => wk ρ cs1 (fun zs cs2 => sp (ds ++ zs) cs2 P Z) Z) Z) : wCallK sp w wk ρ cs P Z := h
theorem r_anyI {R : List D → Cs → Prop} (h : we ρ cs (fun d cs1 => match d with | .lst xs => R xs cs1 | .tup xs => R xs cs1 | _ => False) Z) : iAnyD we ρ cs R Z := h
theorem r_callD {sp : DSp} {dds : List D} (h : w ρ cs (fun ds cs1 => sp (ds ++ dds) cs1 P Z) Z) : wCall sp dds w ρ cs P Z := h
end
end DL
namespace DL
open PySem L2
structure Bx where
  l : Rat
  t : Rat
  w : Rat
  h : Rat
def Bx.d (b : Bx) : D := dB b.l b.t b.w b.h
structure Bx.Sz (b : Bx) (n : Nat) : Prop where
  l : DL.Sz n b.l
  t : DL.Sz n b.t
  w : DL.Sz n b.w
  h : DL.Sz n b.h
structure Bx.Pos (b : Bx) : Prop where
  w : 0 < b.w
  h : 0 < b.h
/-- weights that may be shared by -/
structure WOk (ws : List Int) : Prop where
  l0 : 1 ≤ ws.length
  l1 : ws.length ≤ 12
  pos : ∀ w ∈ ws, 1 ≤ w
  sum : ws.sum < 2 ^ 23
/-- weights as the package takes them -/
structure WtOk (ws : List Int) : Prop where
  l0 : 1 ≤ ws.length
  l1 : ws.length ≤ 12
  rg : ∀ w ∈ ws, 1 ≤ w ∧ w ≤ 400000
theorem sum_le {k : Int} : ∀ {ws : List Int}, (∀ w ∈ ws, w ≤ k) → ws.sum ≤ k * ws.length
  | [], _ => by simp
  | w :: ws, h => by
    have h1 := h w (List.mem_cons_self ..)
    have h2 := sum_le fun x hx => h x (List.mem_cons_of_mem _ hx)
    rw [List.sum_cons, List.length_cons, Int.natCast_add, Int.mul_add]
    omega
theorem len_le_sum : ∀ {ws : List Int}, (∀ w ∈ ws, 1 ≤ w) → (ws.length : Int) ≤ ws.sum
  | [], _ => by simp
  | w :: ws, h => by
    have h1 := h w (List.mem_cons_self ..)
    have h2 := len_le_sum fun x hx => h x (List.mem_cons_of_mem _ hx)
    rw [List.sum_cons, List.length_cons, Int.natCast_add]
    omega
theorem WtOk.wok {ws : List Int} (h : WtOk ws) : WOk ws := by
  refine ⟨h.l0, h.l1, fun w hw => (h.rg w hw).1, ?_⟩
  have := sum_le fun w hw => (h.rg w hw).2
  have := h.l1
  omega in
#guard_msgs (pass all) in open Nat
theorem WOk.sum_pos {ws : List Int} (h : WOk ws) : 0 < ws.sum := by
  have := len_le_sum h.pos
  have := h.l0
  omega
def preS (ws : List Int) (i : Nat) : Int := (ws.take i).sum
theorem preS_succ {ws : List Int} {i : Nat} {w : Int} (h : ws[i]? = some w) : preS ws (i + 1) = preS ws i + w := by
  unfold preS
  rw [take_more h, List.sum_append]
  simp in
#guard_msgs (pass all) in open Nat
theorem preS_zero (ws : List Int) : preS ws 0 = 0 := by simp [preS]
theorem preS_len (ws : List Int) : preS ws ws.length = ws.sum := by simp [preS]
theorem preS_nonneg {ws : List Int} (h : ∀ w ∈ ws, 1 ≤ w) (i : Nat) : 0 ≤ preS ws i := by
  have := len_le_sum (ws := ws.take i) fun w hw => h w (List.mem_of_mem_take hw)
  unfold preS
  omega in
#guard_msgs (pass all) in open Nat
theorem preS_le {ws : List Int} (h : ∀ w ∈ ws, 1 ≤ w) (i : Nat) : preS ws i ≤ ws.sum := by
  have h1 : (ws.take i ++ ws.drop i).sum = ws.sum := by rw [List.take_append_drop]
  have h2 := len_le_sum (ws := ws.drop i) fun w hw => h w (List.mem_of_mem_drop hw)
  rw [List.sum_append] at h1
  unfold preS
  omega in
#guard_msgs (pass all) in open Nat
theorem mem_le_sum {ws : List Int} (h : ∀ w ∈ ws, 1 ≤ w) {i : Nat} {w : Int} (hw : ws[i]? = some w) : w ≤ ws.sum := by
  have h1 := preS_succ hw
  have h2 := preS_le h (i + 1)
  have h3 := preS_nonneg h i
  omega in
#guard_msgs (pass all) in open Nat
theorem Sz.frac {a b : Int} (h0 : 0 ≤ a) (h1 : a < 2 ^ 23) (h2 : 0 < b) (h3 : b < 2 ^ 23) : Sz 23 (Rat.divInt a b) := Sz.divInt (n := 23) (by omega) (by omega) (by omega) (Nat.le_refl _)
/-- what stands at a share of a box, down or across -/
def cutB (b : Bx) (dn : Bool) (begin share : Rat) : Bx := if dn then ⟨b.l, b.t + b.h * begin, b.w, b.h * share⟩ else ⟨b.l + b.w * begin, b.t, b.w * share, b.h⟩
def splitAt_ (b : Bx) (ws : List Int) (dn : Bool) (i : Nat) : Bx := cutB b dn (Rat.divInt (preS ws i) ws.sum) (Rat.divInt (ws.getD i 0) ws.sum)
def splitB (b : Bx) (ws : List Int) (dn : Bool) : List Bx := (List.range ws.length).map (splitAt_ b ws dn)
def sideD (dn : Bool) : D := .str (if dn then "down" else "across")
theorem plD_Bx (b : Bx) {n : Nat} : plD (n + 2) b.d = true := by
  unfold Bx.d dB
  refine plD_tI ?_ (by show 4 ≤ 100000; decide)
  simp only [plL, plD_dR, Bool.and_self] in
#guard_msgs (pass all) in open Nat
theorem plD_Bxs (bs : List Bx) (hl : bs.length ≤ 100000) {n : Nat} : plD (n + 3) (.lst (bs.map Bx.d)) = true := by
  refine plD_lI (plL_of fun d hd => ?_) (by rw [List.length_map]; exact hl)
  obtain ⟨b, _, rfl⟩ := List.mem_map.mp hd
  exact plD_Bx b in
#guard_msgs (pass all) in open Nat
theorem plD_int (i : Int) {n : Nat} : plD n (.int i) = true := by cases n <;> rfl
theorem plL_ints (ws : List Int) {n : Nat} : plL n (ws.map D.int) = true := plL_of fun d hd => by
  obtain ⟨w, _, rfl⟩ := List.mem_map.mp hd
  exact plD_int w
theorem plD_ints (ws : List Int) (hl : ws.length ≤ 100000) {n : Nat} : plD (n + 1) (.lst (ws.map D.int)) = true := plD_lI (plL_ints ws) (by rw [List.length_map]; exact hl)
theorem plD_intsT (ws : List Int) (hl : ws.length ≤ 100000) {n : Nat} : plD (n + 1) (.tup (ws.map D.int)) = true := plD_tI (plL_ints ws) (by rw [List.length_map]; exact hl)
theorem szlt {a : Int} (h0 : 0 < a) (h1 : a < 2 ^ 23) : a.natAbs < 2 ^ 9000 := by
  have h : a.natAbs < 2 ^ 23 := by omega
  exact Nat.lt_of_lt_of_le h (Nat.pow_le_pow_right (by decide) (by decide)) in
#guard_msgs (pass all) in open Nat
section
variable {cs : Cs} {P : DP} {dn : Bool}
theorem r_eqDn (h : P (.bl dn) cs) : oEq (sideD dn) (.str "down") cs P := ⟨rfl, rfl, by
  cases dn
  · rw [show eqD (sideD false) (.str "down") = false by decide]; exact h
  · rw [show eqD (sideD true) (.str "down") = true by decide]; exact h⟩
theorem r_eqAc (h : P (.bl (!dn)) cs) : oEq (sideD dn) (.str "across") cs P := ⟨rfl, rfl, by
  cases dn
  · rw [show eqD (sideD false) (.str "across") = true by decide]; exact h
  · rw [show eqD (sideD true) (.str "across") = false by decide]; exact h⟩
end
def edgeAt (a b : Rat) (ws : List Int) (i : Nat) : Rat := a + b * Rat.divInt (preS ws i) ws.sum
theorem divInt_pos' {a b : Int} (ha : 0 < a) (hb : 0 < b) : 0 < Rat.divInt a b := by
  rw [Rat.divInt_eq_div]
  rw [Rat.div_def]
  exact Rat.mul_pos (Rat.intCast_pos.mpr ha) (Rat.inv_pos.mpr (Rat.intCast_pos.mpr hb)) in
#guard_msgs (pass all) in open Nat
theorem splitAt_down {b : Bx} {ws : List Int} {i : Nat} {w : Int} (hw : ws[i]? = some w) : splitAt_ b ws true i = ⟨b.l, edgeAt b.t b.h ws i, b.w, b.h * Rat.divInt w ws.sum⟩ := by
  unfold splitAt_ cutB edgeAt
  rw [List.getD_eq_getElem?_getD, hw]; rfl in
#guard_msgs (pass all) in open Nat
theorem splitAt_across {b : Bx} {ws : List Int} {i : Nat} {w : Int} (hw : ws[i]? = some w) : splitAt_ b ws false i = ⟨edgeAt b.l b.w ws i, b.t, b.w * Rat.divInt w ws.sum, b.h⟩ := by
  unfold splitAt_ cutB edgeAt
  rw [List.getD_eq_getElem?_getD, hw]; rfl in
#guard_msgs (pass all) in open Nat
theorem splitAt_pos {b : Bx} {ws : List Int} (hp : b.Pos) (hw : WOk ws) (dn : Bool) {i : Nat} {w : Int} (e : ws[i]? = some w) : (splitAt_ b ws dn i).Pos := by
  have h1 := hw.pos w (List.mem_of_getElem? e)
  have h2 := divInt_pos' (a := w) (b := ws.sum) (by omega) hw.sum_pos
  cases dn with
  | true => rw [splitAt_down e]; exact ⟨hp.w, Rat.mul_pos hp.h h2⟩
  | false => rw [splitAt_across e]; exact ⟨Rat.mul_pos hp.w h2, hp.h⟩ in
#guard_msgs (pass all) in open Nat
theorem Bx.Sz.mono {b : Bx} {n m : Nat} (h : b.Sz n) (l : n ≤ m) : b.Sz m := ⟨h.l.mono l, h.t.mono l, h.w.mono l, h.h.mono l⟩
section
variable {cs : Cs} {P : DP} {b : Bx}
theorem r_ixB0 (h : P (dR b.l) cs) : oIx b.d (.int 0) cs P := h
theorem r_ixB1 (h : P (dR b.t) cs) : oIx b.d (.int 1) cs P := h
theorem r_ixB2 (h : P (dR b.w) cs) : oIx b.d (.int 2) cs P := h
theorem r_ixB3 (h : P (dR b.h) cs) : oIx b.d (.int 3) cs P := h
end
end DL
namespace DL
open PySem PySem.Spec PyProof.Rows L2
section
variable {X : Cx} {W : WX} {K : PySem.W.Frag} {σ : L2.St} {H : Hp}
/-- what was put aside is a thing that may change -/
theorem Sta.backM {F G0 : Hp} {cs : Cs} {p : Addr} {m : MO} {o : HO} (s : Sta K (upd F p o) G0 cs H) (hF : F p = none) (q : MoOk K (pur (upd F p o) cs H) m o) : Sta K F G0 ((p, m) :: cs) H ∧ p ∉ adr cs := by
  have hc : p ∉ adr cs := fun z => by
    have := s.ap p z
    rw [upd_same] at this; cases this
  have e : pur F ((p, m) :: cs) H = pur (upd F p o) cs H := by
    funext b
    unfold pur
    by_cases hb : b = p
    · subst hb
      rw [if_pos (.inr (List.mem_cons_self ..)), if_pos (.inl (by rw [upd_same]; rfl))]
    · rw [upd_ne hb]
      have : (b ∈ adr ((p, m) :: cs)) ↔ (b ∈ adr cs) := by
        show b ∈ p :: adr cs ↔ _
        rw [List.mem_cons]
        exact ⟨fun h => h.resolve_left hb, .inr⟩
      by_cases h2 : (F b).isSome = true ∨ b ∈ adr cs
      · rw [if_pos h2, if_pos (h2.imp id this.mpr)]
      · rw [if_neg h2, if_neg fun z => h2 (z.imp id this.mp)]
  refine ⟨⟨fun b u h => s.fr b u (by rw [upd_ne (fun z => by rw [z, hF] at h; cases h)]; exact h), by rw [e]; exact s.gr, ?_, ?_, ?_, ft_back s.ft hF⟩, hc⟩
  · show (p :: adr cs).Nodup
    exact List.nodup_cons.mpr ⟨hc, s.nd⟩
  · intro a ha
    rcases List.mem_cons.mp (show a ∈ p :: adr cs from ha) with e | e
    · rw [e]; exact hF
    · have := s.ap a e
      rw [upd_ne (fun z => hc (by rw [← z]; exact e))] at this; exact this
  · intro a m' hm
    rw [e]
    rcases List.mem_cons.mp hm with e | e
    · cases e
      exact ⟨o, s.fr p o upd_same, q⟩
    · exact s.ow a m' e in
#guard_msgs (pass all) in open Nat
/-- the end of a comprehension -/
abbrev CEnd (K : PySem.W.Frag) (F G : Hp) (R : List D → Cs → Prop) (Q : VK) : Prop := ∀ H2 cs2 D vacc acc, F D = none → Sta K (upd F D (.lst vacc)) G cs2 H2 → RepL K (pur (upd F D (.lst vacc)) cs2 H2) vacc acc → R acc cs2 → Q (.ref D) H2
theorem cend_data {F G : Hp} {P : DP} {Q : VK} (pe : PostE K F G P Q) : CEnd K F G (fun ds cs2 => P (.lst ds) cs2) Q := fun H2 cs2 D vacc acc hF s ra h => by
  obtain ⟨s3, g3, e3⟩ := s.back hF
  exact pe H2 cs2 _ _ s3 (.lst (SqL.of e3) (ra.mono g3)) h
theorem cend_mut {F G : Hp} {P : DP} {Q : VK} (pe : PostE K F G P Q) : CEnd K F G (fun ds cs2 => ∀ p, p ∉ adr cs2 → P (.opq (.ref p)) ((p, .lst ds) :: cs2)) Q := fun H2 cs2 D vacc acc hF s ra h => by
  obtain ⟨s3, hn⟩ := s.backM (m := .lst acc) hF ra
  exact pe H2 _ _ _ s3 (.opq _) (h D hn)
theorem CEnd.le {F G G' : Hp} {R : List D → Cs → Prop} {Q : VK} (h : CEnd K F G R Q) (e : Ex G G') : CEnd K F G' R Q := fun H2 cs2 D vacc acc hF s => h H2 cs2 D vacc acc hF (s.from_ e)
def wCompR (wi : WI) (g : WG) (wt : WT) (we : DL.WE) (vs : List Nat) (R : DP → List D → Cs → Prop) : DL.WE := fun ρ cs P Z => wi ρ cs (fun xs cs1 => xs.length ≤ 100000 ∧ compW g wt we xs (wipeD ρ vs) cs1 [] (R P)) Z
abbrev RM : DP → List D → Cs → Prop := fun P ds cs2 => ∀ p, p ∉ adr cs2 → P (.opq (.ref p)) ((p, .lst ds) :: cs2)
abbrev RD : DP → List D → Cs → Prop := fun P ds cs2 => P (.lst ds) cs2
theorem lcR_ok {wi : WI} {g : TG} {gd : WG} {wt : WT} {we : DL.WE} {vs : List Nat} {R : DP → List D → Cs → Prop} (gk : GOk K g gd vs) (hR : ∀ F G P Q, PostE K F G P Q → CEnd K F G (R P) Q) {Q : VK} : lE K W (wCompR wi gd wt we vs R) σ H Q → tLc (lI K W wi) g (lT K W0 wt) (lE K W0 we) vs σ H Q := by
  rintro ⟨F, cs, ρ, P, Z, s, re, hw, pe, px⟩
  have pc := hR F _ P Q pe
  refine ⟨F, cs, ρ, _, Z, s, re, hw, fun H1 cs1 J xs s1 yi h1 => ?_, px⟩
  intro D hD
  obtain ⟨hlen, h1⟩ := h1
  have hFD : F D = none := s1.fr.back hD
  have reW : RepE K (pur F cs1 H1) (L2.wipe σ vs) (wipeD ρ vs) := (re.mono s1.gr).wipe vs
  refine ⟨fun i m H' => i ≤ xs.length ∧ m = xs.length - i ∧ ∃ cs' acc vacc, Sta K (upd F D (.lst vacc)) (pur F cs1 H1) cs' H' ∧ RepL K (pur (upd F D (.lst vacc)) cs' H') vacc acc ∧ acc.length ≤ i ∧ compW gd wt we (xs.drop i) (wipeD ρ vs) cs' acc (R P),
    ⟨xs.length, Nat.zero_le _, rfl, cs1, [], [], s1.aside hD, .nil, Nat.le_refl _, h1⟩, ?_⟩
  rintro i m H2 ⟨hi, rfl, cs2, acc, vacc, s2, ra, hla, h2⟩
  cases e : xs.drop i with
  | nil =>
    have hl : xs.length ≤ i := by
      have z := congrArg List.length e
      rw [List.length_drop] at z
      have z' : xs.length - i = 0 := z
      omega
    have hie : i = xs.length := by omega
    rw [e] at h2
    exact .inl ⟨by rw [hie]; exact yi.stop _ cs2 H2 s2, pc H2 cs2 D vacc acc hFD (s2.from_ s1.gr) ra h2⟩
  | cons d r =>
    obtain ⟨e1, e2⟩ := drop_cons e
    have hlt : i < xs.length := (List.getElem?_eq_some_iff.mp e1).1
    rw [e] at h2
    refine .inr ⟨yi.go i d e1 _ cs2 H2 s2, fun H' => ∃ cs' acc vacc, Sta K (upd F D (.lst vacc)) (pur F cs1 H1) cs' H' ∧ RepL K (pur (upd F D (.lst vacc)) cs' H') vacc acc ∧ acc.length ≤ i + 1 ∧ compW gd wt we r (wipeD ρ vs) cs' acc (R P), ?_, ?_⟩
    · rintro H' ⟨cs', acc', vacc', s', ra', hl', h'⟩
      exact ⟨xs.length - (i + 1), by omega, by omega, rfl, cs', acc', vacc', s', ra', hl', by rw [e2]; exact h'⟩
    · intro x H3 hy
      obtain ⟨s3, r3⟩ := yi.yld i d e1 _ cs2 H2 x H3 s2 hy
      refine gk _ cs2 H3 _ (wipeD ρ vs) x d _ _ s3.self (reW.mono (s2.gr.trans s3.gr)) r3 wipe_wipe h2 fun σ4 ρ4 hw4 re4 h4 => ⟨hw4.trans rfl, ?_⟩
      refine ⟨_, cs2, ρ4, _, Z0, s3.self, re4, h4, fun H5 cs5 k s5 h5 => ?_, fun _ _ _ _ _ _ z => z⟩
      cases k with
      | false => exact iteF ⟨cs5, acc, vacc, s5.from_ (s2.gr.trans s3.gr), ra.mono (s3.gr.trans s5.gr), Nat.le_succ_of_le hla, h5.2 rfl⟩
      | true =>
        refine iteT ⟨_, cs5, ρ4, _, Z0, s5.self, re4.mono s5.gr, h5.1 rfl, fun H6 cs6 y dy s6 r6 h6 => ?_, fun _ _ _ _ _ _ z => z⟩
        have s7 := (s6.from_ ((s2.gr.trans s3.gr).trans s5.gr))
        obtain ⟨s8, e8⟩ := s7.turn (o' := .lst (vacc ++ [y])) hFD
        refine ⟨vacc, s6.fr D _ upd_same, ?_, cs6, acc ++ [dy], vacc ++ [y], s8, ?_, by rw [List.length_append]; exact Nat.succ_le_succ hla, h6⟩
        · rw [ra.length]; exact Nat.lt_of_le_of_lt (Nat.le_trans hla hi) (Nat.lt_of_le_of_lt hlen (by decide))
        · rw [e8]
          exact (ra.mono (s3.gr.trans (s5.gr.trans s6.gr))).append (.cons r6 .nil) in
#guard_msgs (pass all) in open Nat
def compW2 (g : WG) (wt : WT) (wi1 : WI) (g1 : WG) (wt1 : WT) (we : DL.WE) (vs1 : List Nat) : List D → DL.Env → Cs → List D → (List D → Cs → Prop) → Prop
  | [], _, cs, acc, P => P acc cs
  | d :: r, ρ, cs, acc, P => g d ρ fun ρ1 => wt ρ1 cs (fun k cs1 => (k = true → wi1 ρ1 cs1 (fun xs cs2 => acc.length + xs.length ≤ 100000 ∧ compW g1 wt1 we xs (wipeD ρ1 vs1) cs2 acc (fun acc' cs3 => compW2 g wt wi1 g1 wt1 we vs1 r ρ cs3 acc' P)) Z0) ∧ (k = false → compW2 g wt wi1 g1 wt1 we vs1 r ρ cs1 acc P)) Z0
def wComp2 (wi : WI) (g : WG) (wt : WT) (wi1 : WI) (g1 : WG) (wt1 : WT) (we : DL.WE) (vs vs1 : List Nat) (R : DP → List D → Cs → Prop) : DL.WE := fun ρ cs P Z => wi ρ cs (fun xs cs1 => compW2 g wt wi1 g1 wt1 we vs1 xs (wipeD ρ vs) cs1 [] (R P)) Z
theorem lc2_ok {wi wi1 : WI} {g g1 : TG} {gd gd1 : WG} {wt wt1 : WT} {we : DL.WE} {vs vs1 : List Nat} {R : DP → List D → Cs → Prop} (gk : GOk K g gd vs) (gk1 : GOk K g1 gd1 vs1) (hR : ∀ F G P Q, PostE K F G P Q → CEnd K F G (R P) Q) {Q : VK} :
    lE K W (wComp2 wi gd wt wi1 gd1 wt1 we vs vs1 R) σ H Q → tLc2 (lI K W wi) g (lT K W0 wt) (lI K W0 wi1) g1 (lT K W0 wt1) (lE K W0 we) vs vs1 σ H Q := by
  rintro ⟨F, cs, ρ, P, Z, s, re, hw, pe, px⟩
  have pc := hR F _ P Q pe
  refine ⟨F, cs, ρ, _, Z, s, re, hw, fun H1 cs1 J xs s1 yi h1 => ?_, px⟩
  intro D hD
  have hFD : F D = none := s1.fr.back hD
  have reW : RepE K (pur F cs1 H1) (L2.wipe σ vs) (wipeD ρ vs) := (re.mono s1.gr).wipe vs
  refine ⟨fun i m H' => i ≤ xs.length ∧ m = xs.length - i ∧ ∃ cs' acc vacc, Sta K (upd F D (.lst vacc)) (pur F cs1 H1) cs' H' ∧ RepL K (pur (upd F D (.lst vacc)) cs' H') vacc acc ∧ compW2 gd wt wi1 gd1 wt1 we vs1 (xs.drop i) (wipeD ρ vs) cs' acc (R P),
    ⟨xs.length, Nat.zero_le _, rfl, cs1, [], [], s1.aside hD, .nil, h1⟩, ?_⟩
  rintro i m H2 ⟨hi, rfl, cs2, acc, vacc, s2, ra, h2⟩
  cases e : xs.drop i with
  | nil =>
    have hl : xs.length ≤ i := by
      have z := congrArg List.length e
      rw [List.length_drop] at z
      have z' : xs.length - i = 0 := z
      omega
    have hie : i = xs.length := by omega
    rw [e] at h2
    exact .inl ⟨by rw [hie]; exact yi.stop _ cs2 H2 s2, pc H2 cs2 D vacc acc hFD (s2.from_ s1.gr) ra h2⟩
  | cons d r =>
    obtain ⟨e1, e2⟩ := drop_cons e
    have hlt : i < xs.length := (List.getElem?_eq_some_iff.mp e1).1
    rw [e] at h2
    refine .inr ⟨yi.go i d e1 _ cs2 H2 s2, fun H' => ∃ cs' acc vacc, Sta K (upd F D (.lst vacc)) (pur F cs1 H1) cs' H' ∧ RepL K (pur (upd F D (.lst vacc)) cs' H') vacc acc ∧ compW2 gd wt wi1 gd1 wt1 we vs1 r (wipeD ρ vs) cs' acc (R P), ?_, ?_⟩
    · rintro H' ⟨cs', acc', vacc', s', ra', h'⟩
      exact ⟨xs.length - (i + 1), by omega, by omega, rfl, cs', acc', vacc', s', ra', by rw [e2]; exact h'⟩
    · intro x H3 hy
      obtain ⟨s3, r3⟩ := yi.yld i d e1 _ cs2 H2 x H3 s2 hy
      refine gk _ cs2 H3 _ (wipeD ρ vs) x d _ _ s3.self (reW.mono (s2.gr.trans s3.gr)) r3 wipe_wipe h2 fun σ4 ρ4 hw4 re4 h4 => ⟨hw4.trans rfl, ?_⟩
      refine ⟨_, cs2, ρ4, _, Z0, s3.self, re4, h4, fun H5 cs5 k s5 h5 => ?_, fun _ _ _ _ _ _ z => z⟩
      cases k with
      | false => exact iteF ⟨cs5, acc, vacc, s5.from_ (s2.gr.trans s3.gr), ra.mono (s3.gr.trans s5.gr), h5.2 rfl⟩
      | true =>
        refine iteT ⟨_, cs5, ρ4, _, Z0, s5.self, re4.mono s5.gr, h5.1 rfl, fun H6 cs6 J1 ys s6 yi1 h6 => ?_, fun _ _ _ _ _ _ z => z⟩
        obtain ⟨hly, h6⟩ := h6
        have g6 := (s2.gr.trans s3.gr).trans (s5.gr.trans s6.gr)
        have reV : RepE K (pur (upd F D (.lst vacc)) cs6 H6) (L2.wipe σ4 vs1) (wipeD ρ4 vs1) := (re4.mono (s5.gr.trans s6.gr)).wipe vs1
        refine ⟨fun j k H' => j ≤ ys.length ∧ k = ys.length - j ∧ ∃ cs' acc' vacc', Sta K (upd F D (.lst vacc')) (pur (upd F D (.lst vacc)) cs6 H6) cs' H' ∧ RepL K (pur (upd F D (.lst vacc')) cs' H') vacc' acc' ∧ acc'.length ≤ acc.length + j ∧ compW gd1 wt1 we (ys.drop j) (wipeD ρ4 vs1) cs' acc' (fun acc' cs3 => compW2 gd wt wi1 gd1 wt1 we vs1 r (wipeD ρ vs) cs3 acc' (R P)),
          ⟨ys.length, Nat.zero_le _, rfl, cs6, acc, vacc, s6.self, ra.mono (s3.gr.trans (s5.gr.trans s6.gr)), Nat.le_refl _, h6⟩, ?_⟩
        rintro j k H7 ⟨hj, rfl, cs7, acc7, vacc7, s7, ra7, hla, h7⟩
        cases f : ys.drop j with
        | nil =>
          have hl : ys.length ≤ j := by
            have z := congrArg List.length f
            rw [List.length_drop] at z
            have z' : ys.length - j = 0 := z
            omega
          have hie : j = ys.length := by omega
          rw [f] at h7
          exact .inl ⟨by rw [hie]; exact yi1.stop _ cs7 H7 s7, cs7, acc7, vacc7, s7.from_ g6, ra7, h7⟩
        | cons d1 r1 =>
          obtain ⟨f1, f2⟩ := drop_cons f
          have hlt1 : j < ys.length := (List.getElem?_eq_some_iff.mp f1).1
          rw [f] at h7
          refine .inr ⟨yi1.go j d1 f1 _ cs7 H7 s7, fun H' => ∃ cs' acc' vacc', Sta K (upd F D (.lst vacc')) (pur (upd F D (.lst vacc)) cs6 H6) cs' H' ∧ RepL K (pur (upd F D (.lst vacc')) cs' H') vacc' acc' ∧ acc'.length ≤ acc.length + (j + 1) ∧ compW gd1 wt1 we r1 (wipeD ρ4 vs1) cs' acc' (fun acc' cs3 => compW2 gd wt wi1 gd1 wt1 we vs1 r (wipeD ρ vs) cs3 acc' (R P)), ?_, ?_⟩
          · rintro H' ⟨cs', acc', vacc', s', ra', hl', h'⟩
            exact ⟨ys.length - (j + 1), by omega, by omega, rfl, cs', acc', vacc', s', ra', hl', by rw [f2]; exact h'⟩
          · intro x1 H8 hy1
            obtain ⟨s8, r8⟩ := yi1.yld j d1 f1 _ cs7 H7 x1 H8 s7 hy1
            refine gk1 _ cs7 H8 _ (wipeD ρ4 vs1) x1 d1 _ _ s8.self (reV.mono (s7.gr.trans s8.gr)) r8 wipe_wipe h7 fun σ9 ρ9 hw9 re9 h9 => ⟨hw9.trans rfl, ?_⟩
            refine ⟨_, cs7, ρ9, _, Z0, s8.self, re9, h9, fun Ha csa k sa ha => ?_, fun _ _ _ _ _ _ z => z⟩
            cases k with
            | false => exact iteF ⟨csa, acc7, vacc7, sa.from_ (s7.gr.trans s8.gr), ra7.mono (s8.gr.trans sa.gr), Nat.le_succ_of_le hla, ha.2 rfl⟩
            | true =>
              refine iteT ⟨_, csa, ρ9, _, Z0, sa.self, re9.mono sa.gr, ha.1 rfl, fun Hb csb y dy sb rb hb => ?_, fun _ _ _ _ _ _ z => z⟩
              have sc := (sb.from_ ((s7.gr.trans s8.gr).trans sa.gr))
              obtain ⟨sd, ed⟩ := sc.turn (o' := .lst (vacc7 ++ [y])) hFD
              refine ⟨vacc7, sb.fr D _ upd_same, ?_, csb, acc7 ++ [dy], vacc7 ++ [y], sd, ?_, by rw [List.length_append]; exact Nat.succ_le_succ hla, hb⟩
              · rw [ra7.length]; exact Nat.lt_of_le_of_lt (Nat.le_trans hla (Nat.le_trans (Nat.add_le_add_left hj _) hly)) (by decide)
              · rw [ed]
                exact (ra7.mono (s8.gr.trans (sa.gr.trans sb.gr))).append (.cons rb .nil) in
#guard_msgs (pass all) in open Nat
variable {elt tg iter tg1 iter1 : Expr} {ifs ifs1 : List Expr} {scope : Scope} {own : List (Str × Nat)} {vs1 : List Nat} {pos : Pos} {wi wi1 : WI} {g g1 : TG} {gd gd1 : WG} {wt wt1 : WT} {we : DL.WE}
theorem ds_setLcM {i : Nat} {y : Str} {py spos : Pos} (hc : X.calm = true) (hN : X.N.Nodup) (hy : X.N[i]? = some y) (hyl : X.env.scope.names.lookup y = some .local)
    (hsw : swapsWith (.ListComp elt [⟨tg, iter, ifs, 0⟩] scope pos) (some (.Name y py)) spos.line X.env = pure true) (hi : DI X W tg iter wi) (ok : BlkOk X.N X.env.scope scope own) (gk : GOk X.K g gd (own.map (·.2)))
    (hg : ∀ (s : Shared) (H : Hp) (C : Addr) (cl : List (Str × Addr)) (fp : List Addr), PG (X.blk s H scope (compEnvC scope cl C X.env) fp) tg g)
    (ht : ∀ (s : Shared) (H : Hp) (C : Addr) (cl : List (Str × Addr)) (fp : List Addr), PTs (X.blk s H scope (compEnvC scope cl C X.env) fp) ifs (lT X.K W0 wt))
    (he : ∀ (s : Shared) (H : Hp) (C : Addr) (cl : List (Str × Addr)) (fp : List Addr), DE (X.blk s H scope (compEnvC scope cl C X.env) fp) W0 elt we) (hs : ∀ x, foldedSetIterable iter X.env x = pure x := by intro _; rfl) :
    DS X W (.Assign [.Name y py] (.ListComp elt [⟨tg, iter, ifs, 0⟩] scope pos) spos) (sAsg (wCompR wi gd wt we (own.map (·.2)) RM) (gN i)) :=
  PS.imp (ps_setLc hc hN hy hyl hsw hi ok hg ht he hs) fun E σ H h => by
    obtain ⟨F, cs, ρ, f, s, re, hw, pe⟩ := h
    have h2 : lE X.K W (wCompR wi gd wt we (own.map (·.2)) RM) σ H (fun x H1 => gName i x σ H1 E.nx) := ⟨F, cs, ρ, _, _, s, re, hw, fun H1 cs1 v d s1 r1 h1 => pe.nx H1 cs1 _ _ s1 ((re.mono s1.gr).set r1 i) h1, pe.px re⟩
    exact lcR_ok gk (fun _ _ _ _ pe => cend_mut pe) h2 in
#guard_msgs (pass all) in open Nat
theorem d_lc2 (R : DP → List D → Cs → Prop) (hR : ∀ F G P Q, PostE X.K F G P Q → CEnd X.K F G (R P) Q) (hc : X.calm = true) (hN : X.N.Nodup) (hi : DI X W tg iter wi) (ok : BlkOk X.N X.env.scope scope own) (hv : ∀ i ∈ vs1, i ∈ own.map (·.2)) (gk : GOk X.K g gd (own.map (·.2))) (gk1 : GOk X.K g1 gd1 vs1)
    (hg : ∀ (s : Shared) (H : Hp) (C : Addr) (cl : List (Str × Addr)) (fp : List Addr), PG (X.blk s H scope (compEnvC scope cl C X.env) fp) tg g)
    (ht : ∀ (s : Shared) (H : Hp) (C : Addr) (cl : List (Str × Addr)) (fp : List Addr), PTs (X.blk s H scope (compEnvC scope cl C X.env) fp) ifs (lT X.K W0 wt))
    (hi1 : ∀ (s : Shared) (H : Hp) (C : Addr) (cl : List (Str × Addr)) (fp : List Addr), DI (X.blk s H scope (compEnvC scope cl C X.env) fp) W0 tg1 iter1 wi1)
    (hg1 : ∀ (s : Shared) (H : Hp) (C : Addr) (cl : List (Str × Addr)) (fp : List Addr), PG (X.blk s H scope (compEnvC scope cl C X.env) fp) tg1 g1)
    (ht1 : ∀ (s : Shared) (H : Hp) (C : Addr) (cl : List (Str × Addr)) (fp : List Addr), PTs (X.blk s H scope (compEnvC scope cl C X.env) fp) ifs1 (lT X.K W0 wt1))
    (he : ∀ (s : Shared) (H : Hp) (C : Addr) (cl : List (Str × Addr)) (fp : List Addr), DE (X.blk s H scope (compEnvC scope cl C X.env) fp) W0 elt we) (hs : ∀ x, foldedSetIterable iter X.env x = pure x := by intro _; rfl) (hs1 : ∀ env x, foldedSetIterable iter1 env x = pure x := by intro _ _; rfl) :
    DE X W (.ListComp elt [⟨tg, iter, ifs, 0⟩, ⟨tg1, iter1, ifs1, 0⟩] scope pos) (wComp2 wi gd wt wi1 gd1 wt1 we (own.map (·.2)) vs1 R) := PE.imp (pe_lc2 hc hN hi ok hv hg ht hi1 hg1 ht1 he hs hs1) fun _ _ _ h => lc2_ok gk gk1 hR h in
#guard_msgs (pass all) in open Nat
end
section
variable {ρ : DL.Env} {cs : Cs} {P : DP} {Z : XZ} {we : DL.WE} {wt wt1 : WT}
theorem r_compM_ {wi : WI} {g : WG} {vs : List Nat} {R : DP → List D → Cs → Prop} (h : wi ρ cs (fun xs cs1 => xs.length ≤ 100000 ∧ compW g wt we xs (wipeD ρ vs) cs1 [] (R P)) Z) : wCompR wi g wt we vs R ρ cs P Z := h
theorem r_comp2 {wi wi1 : WI} {g g1 : WG} {vs vs1 : List Nat} {R : DP → List D → Cs → Prop} (h : wi ρ cs (fun xs cs1 => compW2 g wt wi1 g1 wt1 we vs1 xs (wipeD ρ vs) cs1 [] (R P)) Z) : wComp2 wi g wt wi1 g1 wt1 we vs vs1 R ρ cs P Z := h
end
end DL
namespace DL
open PySem PySem.Spec PyProof.Rows L2
section
variable {p : Prop} [Decidable p] {A B : Prop} {k : Bool}
theorem r_isT (hk : k = true) (h : A) : (k = true → A) ∧ (k = false → B) := ⟨fun _ => h, fun z => absurd (hk.symm.trans z) (by decide)⟩
theorem r_isF (hk : k = false) (h : B) : (k = true → A) ∧ (k = false → B) := ⟨fun z => absurd (hk.symm.trans z) (by decide), fun _ => h⟩
theorem r_pos (hp : p) (h : A) : (decide p = true → A) ∧ (decide p = false → B) := r_isT (decide_eq_true hp) h
theorem r_neg_ (hp : ¬ p) (h : B) : (decide p = true → A) ∧ (decide p = false → B) := r_isF (decide_eq_false hp) h
theorem r_npos (hp : p) (h : B) : ((!decide p) = true → A) ∧ ((!decide p) = false → B) := r_isF (by rw [decide_eq_true hp]; rfl) h
end
theorem r_app11 {sp : DSp} {x0 y0 : D} {cs : Cs} {P : DP} {Z : XZ} (h : sp [x0, y0] cs P Z) : sp ([x0] ++ [y0]) cs P Z := h
theorem r_app12 {sp : DSp} {x0 y0 y1 : D} {cs : Cs} {P : DP} {Z : XZ} (h : sp [x0, y0, y1] cs P Z) : sp ([x0] ++ [y0, y1]) cs P Z := h
theorem r_app21 {sp : DSp} {x0 x1 y0 : D} {cs : Cs} {P : DP} {Z : XZ} (h : sp [x0, x1, y0] cs P Z) : sp ([x0, x1] ++ [y0]) cs P Z := h
theorem r_app22 {sp : DSp} {x0 x1 y0 y1 : D} {cs : Cs} {P : DP} {Z : XZ} (h : sp [x0, x1, y0, y1] cs P Z) : sp ([x0, x1] ++ [y0, y1]) cs P Z := h
theorem r_app31 {sp : DSp} {x0 x1 x2 y0 : D} {cs : Cs} {P : DP} {Z : XZ} (h : sp [x0, x1, x2, y0] cs P Z) : sp ([x0, x1, x2] ++ [y0]) cs P Z := h
theorem r_app32 {sp : DSp} {x0 x1 x2 y0 y1 : D} {cs : Cs} {P : DP} {Z : XZ} (h : sp [x0, x1, x2, y0, y1] cs P Z) : sp ([x0, x1, x2] ++ [y0, y1]) cs P Z := h
theorem r_app41 {sp : DSp} {x0 x1 x2 x3 y0 : D} {cs : Cs} {P : DP} {Z : XZ} (h : sp [x0, x1, x2, x3, y0] cs P Z) : sp ([x0, x1, x2, x3] ++ [y0]) cs P Z := h
theorem r_app42 {sp : DSp} {x0 x1 x2 x3 y0 y1 : D} {cs : Cs} {P : DP} {Z : XZ} (h : sp [x0, x1, x2, x3, y0, y1] cs P Z) : sp ([x0, x1, x2, x3] ++ [y0, y1]) cs P Z := h
theorem r_app51 {sp : DSp} {x0 x1 x2 x3 x4 y0 : D} {cs : Cs} {P : DP} {Z : XZ} (h : sp [x0, x1, x2, x3, x4, y0] cs P Z) : sp ([x0, x1, x2, x3, x4] ++ [y0]) cs P Z := h
theorem r_app52 {sp : DSp} {x0 x1 x2 x3 x4 y0 y1 : D} {cs : Cs} {P : DP} {Z : XZ} (h : sp [x0, x1, x2, x3, x4, y0, y1] cs P Z) : sp ([x0, x1, x2, x3, x4] ++ [y0, y1]) cs P Z := h
theorem r_dn1 {sp : DSp} {x0 : D} {cs : Cs} {P : DP} {Z : XZ} (h : sp [x0, sideD true] cs P Z) : sp [x0, .str "down"] cs P Z := h
theorem r_ac1 {sp : DSp} {x0 : D} {cs : Cs} {P : DP} {Z : XZ} (h : sp [x0, sideD false] cs P Z) : sp [x0, .str "across"] cs P Z := h
theorem r_dn2 {sp : DSp} {x0 x1 : D} {cs : Cs} {P : DP} {Z : XZ} (h : sp [x0, x1, sideD true] cs P Z) : sp [x0, x1, .str "down"] cs P Z := h
theorem r_ac2 {sp : DSp} {x0 x1 : D} {cs : Cs} {P : DP} {Z : XZ} (h : sp [x0, x1, sideD false] cs P Z) : sp [x0, x1, .str "across"] cs P Z := h
theorem r_dn3 {sp : DSp} {x0 x1 x2 : D} {cs : Cs} {P : DP} {Z : XZ} (h : sp [x0, x1, x2, sideD true] cs P Z) : sp [x0, x1, x2, .str "down"] cs P Z := h
theorem r_ac3 {sp : DSp} {x0 x1 x2 : D} {cs : Cs} {P : DP} {Z : XZ} (h : sp [x0, x1, x2, sideD false] cs P Z) : sp [x0, x1, x2, .str "across"] cs P Z := h
theorem r_dn4 {sp : DSp} {x0 x1 x2 x3 : D} {cs : Cs} {P : DP} {Z : XZ} (h : sp [x0, x1, x2, x3, sideD true] cs P Z) : sp [x0, x1, x2, x3, .str "down"] cs P Z := h
theorem r_ac4 {sp : DSp} {x0 x1 x2 x3 : D} {cs : Cs} {P : DP} {Z : XZ} (h : sp [x0, x1, x2, x3, sideD false] cs P Z) : sp [x0, x1, x2, x3, .str "across"] cs P Z := h
theorem r_dn5 {sp : DSp} {x0 x1 x2 x3 x4 : D} {cs : Cs} {P : DP} {Z : XZ} (h : sp [x0, x1, x2, x3, x4, sideD true] cs P Z) : sp [x0, x1, x2, x3, x4, .str "down"] cs P Z := h
theorem r_ac5 {sp : DSp} {x0 x1 x2 x3 x4 : D} {cs : Cs} {P : DP} {Z : XZ} (h : sp [x0, x1, x2, x3, x4, sideD false] cs P Z) : sp [x0, x1, x2, x3, x4, .str "across"] cs P Z := h
section
variable {ρ : DL.Env} {cs : Cs} {wa wb we wo wi wv : DL.WE} {w : WA} {ta : WT} {u v : WS} {i j l : Nat} {nx bk ct : DL.Env → Cs → Prop} {rt : D → Cs → Prop} {ex : Exn → DL.Env → Cs → Prop}
theorem q_sif (h : ta ρ cs (fun k cs1 => (k = true → u ⟨nx, rt, ex, bk, ct⟩ ρ cs1) ∧ (k = false → v ⟨nx, rt, ex, bk, ct⟩ ρ cs1)) (fun x cs1 => ex x ρ cs1)) : sIf ta u v ⟨nx, rt, ex, bk, ct⟩ ρ cs := h
theorem q_set (h : we ρ cs (fun d cs1 => nx (ρ.set i (some d)) cs1) (fun x cs1 => ex x ρ cs1)) : sAsg we (gN i) ⟨nx, rt, ex, bk, ct⟩ ρ cs := h
theorem q_asg {g : WG} (h : we ρ cs (fun d cs1 => g d ρ fun ρ' => nx ρ' cs1) (fun x cs1 => ex x ρ cs1)) : sAsg we g ⟨nx, rt, ex, bk, ct⟩ ρ cs := h
theorem q_ret (h : we ρ cs rt (fun x cs1 => ex x ρ cs1)) : sRet we ⟨nx, rt, ex, bk, ct⟩ ρ cs := h
theorem q_retN (h : rt .non cs) : sRetN ⟨nx, rt, ex, bk, ct⟩ ρ cs := h
theorem q_drop (h : we ρ cs (fun _ cs1 => nx ρ cs1) (fun x cs1 => ex x ρ cs1)) : sDrop we ⟨nx, rt, ex, bk, ct⟩ ρ cs := h
theorem q_next (h : nx ρ cs) : sNext ⟨nx, rt, ex, bk, ct⟩ ρ cs := h
theorem q_brk (h : bk ρ cs) : sBreak ⟨nx, rt, ex, bk, ct⟩ ρ cs := h
theorem q_ct (h : ct ρ cs) : sCont ⟨nx, rt, ex, bk, ct⟩ ρ cs := h
theorem q_par (h : wa ρ cs (fun x cs1 => wb ρ cs1 (fun y cs2 => nx ((ρ.set i (some x)).set j (some y)) cs2) (fun x cs1 => ex x ρ cs1)) (fun x cs1 => ex x ρ cs1)) : sPar i j (wCons wa (wCons wb wNil)) ⟨nx, rt, ex, bk, ct⟩ ρ cs := h
theorem q_setix (h : wv ρ cs (fun v cs1 => wo ρ cs1 (fun x cs2 => wi ρ cs2 (fun i cs3 => oSetL x i v cs3 fun cs4 => nx ρ cs4) (fun x cs1 => ex x ρ cs1)) (fun x cs1 => ex x ρ cs1)) (fun x cs1 => ex x ρ cs1)) : sSetIx wv wo wi oSetL ⟨nx, rt, ex, bk, ct⟩ ρ cs := h
theorem q_aug {o : DO2} {x : D} (hi : ρ[i]? = some (some x)) (h : we ρ cs (fun y cs1 => o x y cs1 fun z cs2 => nx (ρ.set i (some z)) cs2) (fun x cs1 => ex x ρ cs1)) : sAug i o we ⟨nx, rt, ex, bk, ct⟩ ρ cs := r_aug hi h
theorem q_for {wi : WI} {g : WG} (h : wi ρ cs (fun xs cs1 => loopW g u ⟨nx, rt, ex, bk, ct⟩ xs ρ cs1) (fun x cs1 => ex x ρ cs1)) : sFor wi g u ⟨nx, rt, ex, bk, ct⟩ ρ cs := h
theorem q_par3 (h : w ρ cs (fun ds cs1 => match ds with
  | [x, y, z] => nx (((ρ.set i (some x)).set j (some y)).set l (some z)) cs1
  | _ => False) (fun x cs1 => ex x ρ cs1)) : sPar3 i j l w ⟨nx, rt, ex, bk, ct⟩ ρ cs := h
end
section
variable {ρ : DL.Env} {cs : Cs} {P : DP} {Z : XZ} {x y z : D} {ds : List D}
theorem g_s {u : WS} {f : Fin} (h : u f ρ cs) : u f ρ cs := h
theorem g_e {u : DL.WE} (h : u ρ cs P Z) : u ρ cs P Z := h
theorem g_t {u : WT} {Q : Bool → Cs → Prop} (h : u ρ cs Q Z) : u ρ cs Q Z := h
theorem g_a {u : WA} {Q : List D → Cs → Prop} (h : u ρ cs Q Z) : u ρ cs Q Z := h
theorem g_o {u : WO} {Q : Option Int → Cs → Prop} (h : u ρ cs Q Z) : u ρ cs Q Z := h
theorem g_2 {o : DO2} (h : o x y cs P) : o x y cs P := h
theorem g_n {o : DOn} (h : o ds cs P) : o ds cs P := h
theorem g_p {o : DSp} (h : o ds cs P Z) : o ds cs P Z := h
theorem g_m {o : DMt} (h : o x ds cs P) : o x ds cs P := h
theorem g_g {g : WG} {k : DL.Env → Prop} (h : g x ρ k) : g x ρ k := h
theorem g_gs {g : WGs} {k : DL.Env → Prop} (h : g ds ρ k) : g ds ρ k := h
theorem g_w {o : DSet} {k : Cs → Prop} (h : o x y z cs k) : o x y z cs k := h
theorem g_c {A B : Prop} (h : A ∧ B) : A ∧ B := h
end
section
variable {α : Type} {ρ : DL.Env} {cs : Cs} {we : DL.WE} {wt : WT}
theorem r_cfm {gd : WG} {R : List D → Cs → Prop} {l : List α} {g : α → D} (p : α → Bool) (f : α → D)
    (hs : ∀ a (N : DP) (N' : Cs → Prop), a ∈ l → (p a = true → N (f a) cs) → (p a = false → N' cs) → gd (g a) ρ fun ρ1 => wt ρ1 cs (fun b cs1 => (b = true → we ρ1 cs1 N Z0) ∧ (b = false → N' cs1)) Z0)
    (hd : R ((l.filter p).map f) cs) : compW gd wt we (l.map g) ρ cs [] R := by
  refine r_comp0 (fun i acc cs' => acc = ((l.take i).filter p).map f ∧ cs' = cs) ⟨rfl, rfl⟩ ?_ ?_
  · rintro i d acc cs' N e ⟨rfl, rfl⟩ hN
    rw [List.getElem?_map] at e
    obtain ⟨a, e1, rfl⟩ := Option.map_eq_some_iff.mp e
    refine hs a _ _ (List.mem_of_getElem? e1) (fun h => hN _ _ ⟨?_, rfl⟩) (fun h => hN _ _ ⟨?_, rfl⟩)
    · rw [take_more e1, List.filter_append, List.map_append, List.filter_cons_of_pos h]; rfl
    · rw [take_more e1, List.filter_append, List.filter_cons_of_neg (by rw [h]; decide), List.filter_nil, List.append_nil]
  · rintro acc cs' ⟨rfl, rfl⟩
    rw [List.length_map, List.take_length]
    exact hd in
#guard_msgs (pass all) in open Nat
theorem r_cm {gd : WG} {R : List D → Cs → Prop} {l : List α} {g : α → D} (f : α → D)
    (hs : ∀ a (N : DP) (N' : Cs → Prop), a ∈ l → N (f a) cs → gd (g a) ρ fun ρ1 => wt ρ1 cs (fun b cs1 => (b = true → we ρ1 cs1 N Z0) ∧ (b = false → N' cs1)) Z0)
    (hd : R (l.map f) cs) : compW gd wt we (l.map g) ρ cs [] R := by
  refine r_cfm (fun _ => true) f (fun a N N' h h1 h2 => hs a N N' h (h1 rfl)) ?_
  rw [List.filter_eq_self.mpr fun _ _ => rfl]
  exact hd in
#guard_msgs (pass all) in open Nat
theorem r_cfmE {gd : WG} {R : List D → Cs → Prop} {xs : List D} {l : List α} {g : α → D} (e : xs = l.map g) (p : α → Bool) (f : α → D)
    (hs : ∀ a (N : DP) (N' : Cs → Prop), a ∈ l → (p a = true → N (f a) cs) → (p a = false → N' cs) → gd (g a) ρ fun ρ1 => wt ρ1 cs (fun b cs1 => (b = true → we ρ1 cs1 N Z0) ∧ (b = false → N' cs1)) Z0)
    (hd : R ((l.filter p).map f) cs) : compW gd wt we xs ρ cs [] R := by subst e; exact r_cfm p f hs hd in
#guard_msgs (pass all) in open Nat
theorem r_cmE {gd : WG} {R : List D → Cs → Prop} {xs : List D} {l : List α} {g : α → D} (e : xs = l.map g) (f : α → D)
    (hs : ∀ a (N : DP) (N' : Cs → Prop), a ∈ l → N (f a) cs → gd (g a) ρ fun ρ1 => wt ρ1 cs (fun b cs1 => (b = true → we ρ1 cs1 N Z0) ∧ (b = false → N' cs1)) Z0)
    (hd : R (l.map f) cs) : compW gd wt we xs ρ cs [] R := by subst e; exact r_cm f hs hd in
#guard_msgs (pass all) in open Nat
theorem r_zip {w : WA} {Z : XZ} {R : List D → Cs → Prop} (h : w ρ cs (fun ds cs1 => match ds with | [.lst xs, .lst ys] => R (List.zipWith (fun d e => D.tup [d, e]) xs ys) cs1 | [.tup xs, .tup ys] => R (List.zipWith (fun d e => D.tup [d, e]) xs ys) cs1 | _ => False) Z) : iZp w ρ cs R Z := h
end
section
variable {p q : Addr} {m : MO} {cs cs' : Cs}
theorem BagIn.over (hn : p ≠ q) (h : BagIn p cs) : BagIn p ((q, m) :: cs) := by
  obtain ⟨b, e, hb⟩ := h
  exact ⟨b, by unfold look; rw [if_neg (Ne.symm hn)]; exact e, hb⟩ in
#guard_msgs (pass all) in open Nat
end
/-- weights: a list or a tuple -/
def WD (wd : D) (ws : List Int) : Prop := wd = .lst (ws.map D.int) ∨ wd = .tup (ws.map D.int)
theorem WD.l (ws : List Int) : WD (.lst (ws.map D.int)) ws := .inl rfl
theorem WD.t (ws : List Int) : WD (.tup (ws.map D.int)) ws := .inr rfl
theorem r_lenW {wd : D} {ws : List Int} (h : WD wd ws) {cs : Cs} {P : DP} (hq : P (.int (ws.length : Int)) cs) : oLen [wd] cs P := by
  rcases h with rfl | rfl
  · exact r_lenL (by rw [List.length_map]; exact hq)
  · exact r_lenT (by rw [List.length_map]; exact hq) in
#guard_msgs (pass all) in open Nat
theorem r_sumW {wd : D} {ws : List Int} (h : WD wd ws) {cs : Cs} {P : DP} (hq : P (.int ws.sum) cs) : oSumA [wd] cs P := by
  rcases h with rfl | rfl
  · exact ⟨ws, .inl rfl, hq⟩
  · exact ⟨ws, .inr rfl, hq⟩ in
#guard_msgs (pass all) in open Nat
/-- the sizes of rows of n things -/
structure SzOk (zs : List Int) (n : Nat) : Prop where
  pos : ∀ z ∈ zs, 1 ≤ z
  sum : zs.sum = n
def rowAt {α : Type} (xs : List α) (zs : List Int) (i : Nat) : List α := (xs.drop (preS zs i).toNat).take (zs.getD i 0).toNat
theorem getD_of {zs : List Int} {i : Nat} {z : Int} (h : zs[i]? = some z) : zs.getD i 0 = z := by
  rw [List.getD_eq_getElem?_getD, h]; rfl in
#guard_msgs (pass all) in open Nat
theorem SzOk.pre_le {zs : List Int} {n : Nat} (h : SzOk zs n) (i : Nat) : preS zs i ≤ n := by rw [← h.sum]; exact preS_le h.pos i in
#guard_msgs (pass all) in open Nat
theorem SzOk.len {zs : List Int} {n : Nat} (h : SzOk zs n) : zs.length ≤ n := by
  have := len_le_sum h.pos
  have := h.sum
  omega in
#guard_msgs (pass all) in open Nat
theorem row_len {α : Type} {xs : List α} {zs : List Int} (h : SzOk zs xs.length) {i : Nat} {z : Int} (hz : zs[i]? = some z) : (rowAt xs zs i).length = z.toNat := by
  unfold rowAt
  have h1 := preS_nonneg h.pos i
  have h2 := h.pre_le (i + 1)
  rw [preS_succ hz] at h2
  rw [List.length_take, List.length_drop, getD_of hz]
  omega in
#guard_msgs (pass all) in open Nat
/-- the rows make the whole -/
theorem rows_take {α : Type} {xs : List α} {zs : List Int} (hp : ∀ z ∈ zs, 1 ≤ z) : ∀ i, i ≤ zs.length → (List.range i).flatMap (rowAt xs zs) = xs.take (preS zs i).toNat
  | 0, _ => by rw [preS_zero]; rfl
  | i + 1, hi => by
    have hz : zs[i]? = some zs[i] := List.getElem?_eq_getElem (by omega)
    have h1 := preS_nonneg hp i
    have h2 := hp _ (List.mem_of_getElem? hz)
    rw [List.range_succ, List.flatMap_append, rows_take hp i (by omega), preS_succ hz]
    have e : (preS zs i + zs[i]).toNat = (preS zs i).toNat + zs[i].toNat := by omega
    rw [e, List.take_add, List.flatMap_cons, List.flatMap_nil, List.append_nil]
    unfold rowAt
    rw [getD_of hz] in
#guard_msgs (pass all) in open Nat
theorem rows_all {α : Type} {xs : List α} {zs : List Int} (h : SzOk zs xs.length) : (List.range zs.length).flatMap (rowAt xs zs) = xs := by
  rw [rows_take h.pos _ (Nat.le_refl _), preS_len, h.sum]
  exact List.take_of_length_le (by omega) in
#guard_msgs (pass all) in open Nat
theorem row_mem {α : Type} {xs : List α} {zs : List Int} {i : Nat} {x : α} (h : x ∈ rowAt xs zs i) : x ∈ xs := List.mem_of_mem_drop (List.mem_of_mem_take h)
/-- the weights of the rows -/
def sumsOf (ws : List Int) (zs : List Int) : List Int := (List.range zs.length).map fun i => (rowAt ws zs i).sum
theorem sums_len (ws zs : List Int) : (sumsOf ws zs).length = zs.length := by simp [sumsOf]
theorem sums_get {ws zs : List Int} {i : Nat} (h : i < zs.length) : (sumsOf ws zs)[i]? = some (rowAt ws zs i).sum := by
  unfold sumsOf
  rw [List.getElem?_map, List.getElem?_range h]; rfl in
#guard_msgs (pass all) in open Nat
theorem sum_flatMap {α : Type} (f : α → List Int) : ∀ l : List α, (l.flatMap f).sum = (l.map fun i => (f i).sum).sum
  | [] => rfl
  | a :: l => by rw [List.flatMap_cons, List.sum_append, sum_flatMap f l]; rfl
theorem sums_sum {ws zs : List Int} (h : SzOk zs ws.length) : (sumsOf ws zs).sum = ws.sum := by
  unfold sumsOf
  rw [← sum_flatMap, rows_all h] in
#guard_msgs (pass all) in open Nat
theorem row_wok {ws zs : List Int} (hw : WOk ws) (h : SzOk zs ws.length) {i : Nat} (hi : i < zs.length) : WOk (rowAt ws zs i) := by
  have hz : zs[i]? = some zs[i] := List.getElem?_eq_getElem hi
  have hl := row_len h hz
  have hp := h.pos _ (List.mem_of_getElem? hz)
  have pos : ∀ w ∈ rowAt ws zs i, 1 ≤ w := fun w hw' => hw.pos w (row_mem hw')
  have h1 := mem_le_sum (ws := sumsOf ws zs) (i := i) (w := (rowAt ws zs i).sum) (fun w hm => by
    obtain ⟨j, hj, rfl⟩ := List.mem_map.mp hm
    have hj' := List.mem_range.mp hj
    have hzj : zs[j]? = some zs[j] := List.getElem?_eq_getElem hj'
    have := len_le_sum (ws := rowAt ws zs j) fun w hw' => hw.pos w (row_mem hw')
    have := row_len h hzj
    have := h.pos _ (List.mem_of_getElem? hzj)
    omega) (sums_get hi)
  rw [sums_sum h] at h1
  refine ⟨by omega, ?_, pos, by have := hw.sum; omega⟩
  have := h.pre_le (i + 1)
  have := preS_nonneg h.pos i
  rw [preS_succ hz] at *
  have := hw.l1
  omega in
#guard_msgs (pass all) in open Nat
theorem sums_wok {ws zs : List Int} (hw : WOk ws) (h : SzOk zs ws.length) : WOk (sumsOf ws zs) := by
  have h0 : 0 < zs.length := by
    cases zs with
    | nil => have := h.sum; have := hw.l0; simp at *; omega
    | cons _ _ => simp
  refine ⟨by rw [sums_len]; exact h0, by rw [sums_len]; have := h.len; have := hw.l1; omega, ?_, by rw [sums_sum h]; exact hw.sum⟩
  intro w hm
  obtain ⟨j, hj, rfl⟩ := List.mem_map.mp hm
  have hj' := List.mem_range.mp hj
  have := (row_wok hw h hj').sum_pos
  omega in
#guard_msgs (pass all) in open Nat
theorem r_flatB {k : Bool} {A : Prop} (h : A) : flatD (.bl k) = true ∧ A := ⟨rfl, h⟩
/-- the boxes of rows -/
def laidAt (b : Bx) (ws zs : List Int) (dn : Bool) (i : Nat) : List Bx := splitB (splitAt_ b (sumsOf ws zs) dn i) (rowAt ws zs i) (!dn)
def laidB (b : Bx) (ws zs : List Int) (dn : Bool) : List Bx := (List.range zs.length).flatMap (laidAt b ws zs dn)
end DL
namespace DL
open PySem PySem.Spec PyProof.Rows L2
/-- what stands in a list, data or changing -/
def lstOf (cs : Cs) : D → Option (List D)
  | .lst xs => some xs
  | .opq (.ref p) => (match look p cs with
    | some (.lst xs) => some xs
    | _ => none)
  | _ => none
theorem lstOf_m {cs : Cs} {p : Addr} {xs : List D} (h : look p cs = some (.lst xs)) : lstOf cs (.opq (.ref p)) = some xs := by
  unfold lstOf
  simp only [h] in
#guard_msgs (pass all) in open Nat
theorem lstOf_h {cs : Cs} {p : Addr} {xs : List D} : lstOf ((p, .lst xs) :: cs) (.opq (.ref p)) = some xs := lstOf_m look_hd
section
variable {X : Cx} {W : WX} {K : PySem.W.Frag} {σ : L2.St} {H : Hp} {a b : Expr} {wa wb : DL.WE} {pos : Pos}
theorem lstOf_sq {F G0 : Hp} {cs : Cs} {x : V} {d : D} {xs : List D} (s : Sta K F G0 cs H) (r : Rep K (pur F cs H) x d) (h : lstOf cs d = some xs) : ∃ p vs, x = .ref p ∧ SqL K H p vs ∧ RepL K (pur F cs H) vs xs := by
  cases d <;> try (cases h)
  · cases r with
    | lst h r => exact ⟨_, _, rfl, ex_l pur_le h, r⟩
  · rename_i v
    cases v <;> try (cases h)
    rename_i p
    cases r
    have h' : (match look p cs with
      | some (.lst xs) => some xs
      | _ => none) = some xs := h
    split at h'
    · rename_i ys e
      cases h'
      obtain ⟨vs, e1, e2⟩ := lst_at s e
      exact ⟨p, vs, rfl, SqL.of e1, e2⟩
    · cases h' in
#guard_msgs (pass all) in open Nat
def rCatQ (K : PySem.W.Frag) : R2 := fun x y H Q => ∃ a b xs ys, x = .ref a ∧ y = .ref b ∧ SqL K H a xs ∧ SqL K H b ys ∧ xs.length + ys.length ≤ sizeLine ∧ ∀ p, H p = none → Q (.ref p) (upd H p (.lst (xs ++ ys)))
theorem op_catQ : OpR X (binaryOp .Add) (rCatQ X.K) := by
  intro pins s σ H x y v u Q I rx ry h
  obtain ⟨l, b, xs, zs, rfl, rfl, hH, hB, hz, q⟩ := h
  cases rx
  cases ry
  obtain ⟨its, r, pl, _⟩ := I.list hH
  obtain ⟨its2, r2, pl2, _⟩ := I.list hB
  obtain ⟨⟨cls, dd, data, sl⟩, n, ho, hc, hdd, hd⟩ := pl
  obtain ⟨⟨cls2, dd2, data2, sl2⟩, n2, ho2, hc2, hdd2, hd2⟩ := pl2
  simp only at hc hd hc2 hd2
  subst hc hd hc2 hd2
  have l1 := r.length
  have l2 := r2.length
  refine concat_meets ⟨_, ho, rfl⟩ ⟨_, ho2, rfl⟩ noFill_list_add seq_list_add PySem.F.slot_list_add PySem.F.entry_list_add (PySem.F.args_list_add_2 _ _) (list_addW l b its.toArray its2.toArray n n2 dd dd2 sl sl2 (by rw [List.size_toArray, List.size_toArray]; omega)) ⟨ho, ho2, ?_⟩
  have ea : its.toArray ++ its2.toArray = (its ++ its2).toArray := by simp
  rw [ea]
  exact ⟨.ref _, _, I.lnew (t' := s.toks) (r.append r2) (by rw [List.length_append]; omega), rfl, q _ I.fresh⟩ in
#guard_msgs (pass all) in open Nat
def oCatL : DO2 := fun x y cs P => ∃ xs ys, lstOf cs x = some xs ∧ lstOf cs y = some ys ∧ xs.length + ys.length ≤ 100000 ∧ P (.lst (xs ++ ys)) cs
def oCatM : DO2 := fun x y cs P => ∃ xs ys, lstOf cs x = some xs ∧ lstOf cs y = some ys ∧ xs.length + ys.length ≤ 100000 ∧ ∀ p, p ∉ adr cs → P (.opq (.ref p)) ((p, .lst (xs ++ ys)) :: cs)
theorem adq_catL : Adq K (rCatQ K) oCatL := fun F cs H x y dx dy P Q s rx ry ho pe => by
  obtain ⟨xs, ys, e1, e2, hl, h⟩ := ho
  obtain ⟨p, vs, rfl, h1, r1⟩ := lstOf_sq s rx e1
  obtain ⟨q, us, rfl, h2, r2⟩ := lstOf_sq s ry e2
  refine ⟨_, _, _, _, rfl, rfl, h1, h2, by rw [r1.length, r2.length]; exact Nat.le_trans hl (by decide), fun p hp => ?_⟩
  obtain ⟨s2, e2⟩ := s.new (o := .lst (vs ++ us)) hp
  exact pe _ cs _ _ s2 (.lst (SqL.of e2) ((r1.append r2).mono s2.gr)) h in
#guard_msgs (pass all) in open Nat
theorem d_catL (ha : DE X W a wa) (hb : DE X W b wb) : DE X W (.BinOp a .Add b pos) (wOp oCatL wa wb) := d_op op_catQ adq_catL ha hb
def oLenX : DOn := fun ds cs P => ∃ d xs, ds = [d] ∧ lstOf cs d = some xs ∧ P (.int (xs.length : Int)) cs
theorem adq_lenX : AdqN K (fun xs H Q => ∃ p ys, xs = [.ref p] ∧ (SqL K H p ys ∨ SqT K H p ys) ∧ Q (.int ys.length) H) oLenX := fun F cs H xs ds P Q s r ho pe => by
  obtain ⟨d, ys, rfl, e, h⟩ := ho
  cases r with
  | cons r1 t =>
    cases t
    obtain ⟨p, vs, rfl, h1, r1⟩ := lstOf_sq s r1 e
    exact ⟨_, _, rfl, .inl h1, by rw [r1.length]; exact pe H cs _ _ s (.int _) h⟩
def oListX : DOn := fun ds cs P => ∃ d xs, ds = [d] ∧ (lstOf cs d = some xs ∨ d = .tup xs) ∧ P (.lst xs) cs
def oListM : DOn := fun ds cs P => ∃ d xs, ds = [d] ∧ (lstOf cs d = some xs ∨ d = .tup xs) ∧ ∀ p, p ∉ adr cs → P (.opq (.ref p)) ((p, .lst xs) :: cs)
def oTupX : DOn := fun ds cs P => ∃ d xs, ds = [d] ∧ (lstOf cs d = some xs ∨ d = .tup xs) ∧ P (.tup xs) cs
def oMin2 : DOn := fun ds cs P => ∃ i j, ds = [.int i, .int j] ∧ P (.int (if j < i then j else i)) cs
def oMax2 : DOn := fun ds cs P => ∃ i j, ds = [.int i, .int j] ∧ P (.int (if i < j then j else i)) cs
end
section
variable {cs : Cs} {P : DP} {d e : D} {xs ys : List D} {p : Addr}
theorem r_catLL (hl : xs.length + ys.length ≤ 100000) (h : P (.lst (xs ++ ys)) cs) : oCatL (.lst xs) (.lst ys) cs P := ⟨xs, ys, rfl, rfl, hl, h⟩
theorem r_catML (hl : xs.length + ys.length ≤ 100000) (h : ∀ p, p ∉ adr cs → P (.opq (.ref p)) ((p, .lst (xs ++ ys)) :: cs)) : oCatM (.lst xs) (.lst ys) cs P := ⟨xs, ys, rfl, rfl, hl, h⟩
theorem r_lenH (h : P (.int (xs.length : Int)) ((p, .lst xs) :: cs)) : oLenX [.opq (.ref p)] ((p, .lst xs) :: cs) P := ⟨_, xs, rfl, lstOf_h, h⟩
theorem r_lenXL (h : P (.int (xs.length : Int)) cs) : oLenX [.lst xs] cs P := ⟨_, xs, rfl, rfl, h⟩
theorem r_tupH (h : P (.tup xs) ((p, .lst xs) :: cs)) : oTupX [.opq (.ref p)] ((p, .lst xs) :: cs) P := ⟨_, xs, rfl, .inl lstOf_h, h⟩
theorem r_tupXL (h : P (.tup xs) cs) : oTupX [.lst xs] cs P := ⟨_, xs, rfl, .inl rfl, h⟩
theorem r_tupXT (h : P (.tup xs) cs) : oTupX [.tup xs] cs P := ⟨_, xs, rfl, .inr rfl, h⟩
theorem r_listXH (h : P (.lst xs) ((p, .lst xs) :: cs)) : oListX [.opq (.ref p)] ((p, .lst xs) :: cs) P := ⟨_, xs, rfl, .inl lstOf_h, h⟩
theorem r_listXL (h : P (.lst xs) cs) : oListX [.lst xs] cs P := ⟨_, xs, rfl, .inl rfl, h⟩
theorem r_listXT (h : P (.lst xs) cs) : oListX [.tup xs] cs P := ⟨_, xs, rfl, .inr rfl, h⟩
theorem r_listML (h : ∀ p, p ∉ adr cs → P (.opq (.ref p)) ((p, .lst xs) :: cs)) : oListM [.lst xs] cs P := ⟨_, xs, rfl, .inl rfl, h⟩
theorem r_listMT (h : ∀ p, p ∉ adr cs → P (.opq (.ref p)) ((p, .lst xs) :: cs)) : oListM [.tup xs] cs P := ⟨_, xs, rfl, .inr rfl, h⟩
theorem r_min2 {i j : Int} (h : P (.int (if j < i then j else i)) cs) : oMin2 [.int i, .int j] cs P := ⟨_, _, rfl, h⟩
theorem r_max2 {i j : Int} (h : P (.int (if i < j then j else i)) cs) : oMax2 [.int i, .int j] cs P := ⟨_, _, rfl, h⟩
theorem r_sumL {ns : List Int} (h : P (.int ns.sum) cs) : oSumA [.lst (ns.map D.int)] cs P := ⟨ns, .inl rfl, h⟩
theorem r_sumT {ns : List Int} (h : P (.int ns.sum) cs) : oSumA [.tup (ns.map D.int)] cs P := ⟨ns, .inr rfl, h⟩
end
section
variable {X : Cx} {W : WX} {K : PySem.W.Frag} {σ : L2.St} {H : Hp} {a e : Expr} {wa : DL.WE} {w : WA} {cpos apos : Pos}
def oClear : DMt := fun x ds cs P => ∃ p xs, x = .opq (.ref p) ∧ ds = [] ∧ look p cs = some (.lst xs) ∧ P .non (put p (.lst []) cs)
theorem r_clearH {cs : Cs} {P : DP} {p : Addr} {xs : List D} (h : P .non ((p, .lst []) :: cs)) : oClear (.opq (.ref p)) [] ((p, .lst xs) :: cs) P := ⟨p, xs, rfl, rfl, look_hd, by rw [put_hd]; exact h⟩
theorem RepL.erase {G : Hp} : ∀ {vs : List V} {ds : List D} (n : Nat), RepL K G vs ds → RepL K G (vs.eraseIdx n) (ds.eraseIdx n)
  | _, _, _, .nil => .nil
  | _, _, 0, .cons _ r => r
  | _, _, n + 1, .cons h r => .cons h (r.erase n)
end
end DL
namespace DL
open PySem PySem.Spec PyProof.Rows L2
theorem flat_congr {α β : Type} {f g : α → List β} : ∀ {l : List α}, (∀ a ∈ l, f a = g a) → l.flatMap f = l.flatMap g
  | [], _ => rfl
  | a :: l, h => by rw [List.flatMap_cons, List.flatMap_cons, h a (List.mem_cons_self ..), flat_congr fun b hb => h b (List.mem_cons_of_mem _ hb)]
end DL
namespace DL
open PySem PySem.Spec PyProof.Rows L2
section
variable {X : Cx} {W : WX} {K : PySem.W.Frag} {σ : L2.St} {H : Hp} {pos : Pos}
def gStar (g1 g2 : WG) : WG := fun d ρ k => match d with
  | .lst (x :: xs) => g1 x ρ fun ρ1 => g2 (.lst xs) ρ1 k
  | _ => False
theorem r_gStar {g1 g2 : WG} {x : D} {xs : List D} {ρ : DL.Env} {k : DL.Env → Prop} (h : g1 x ρ fun ρ1 => g2 (.lst xs) ρ1 k) : gStar g1 g2 (.lst (x :: xs)) ρ k := h
def oSlAny : D → Option Int → Option Int → Cs → DP → Prop := fun x lo hi cs P => match x with
  | .lst xs => P (.lst (DL.cutD xs lo hi)) cs
  | .tup xs => P (.tup (DL.cutD xs lo hi)) cs
  | _ => False
theorem r_slAL {xs : List D} {lo hi : Option Int} {cs : Cs} {P : DP} (h : P (.lst (DL.cutD xs lo hi)) cs) : oSlAny (.lst xs) lo hi cs P := h
theorem r_slAT {xs : List D} {lo hi : Option Int} {cs : Cs} {P : DP} (h : P (.tup (DL.cutD xs lo hi)) cs) : oSlAny (.tup xs) lo hi cs P := h
def wGone (we : DL.WE) : DL.WE := fun ρ cs P Z => we ρ cs (fun d cs1 => ∃ p, P d (del p cs1)) Z
theorem r_gone {we : DL.WE} {ρ : DL.Env} {cs : Cs} {P : DP} {Z : XZ} (h : we ρ cs (fun d cs1 => ∃ p, P d (del p cs1)) Z) : wGone we ρ cs P Z := h
theorem r_goneH {p : Addr} {m : MO} {cs : Cs} {P : DP} {d : D} (h : P d cs) : ∃ p', P d (del p' ((p, m) :: cs)) := ⟨p, by rw [del_hd]; exact h⟩
end
end DL
namespace DL
open PySem PySem.Spec PyProof.Rows L2
def mxR (m y : Rat) : Rat := if m < y then y else m
def maxL : List Rat → Rat
  | [] => 0
  | x :: xs => xs.foldl mxR x
structure IsMax (m : Rat) (l : List Rat) : Prop where
  mem : m ∈ l
  le : ∀ y ∈ l, y ≤ m
theorem IsMax.uniq {m m' : Rat} {l : List Rat} (h : IsMax m l) (h' : IsMax m' l) : m = m' := Rat.le_antisymm (h'.le m h.mem) (h.le m' h'.mem)
theorem atD_zero (x : D) (xs : List D) : atD (x :: xs) 0 = some x := atI_nat (j := 0) rfl
theorem r_ix0 {x : D} {xs : List D} {cs : Cs} {P : DP} (h : P x cs) : oIx (.lst (x :: xs)) (.int 0) cs P := r_ixL (atD_zero x xs) h
theorem r_ix0T {x : D} {xs : List D} {cs : Cs} {P : DP} (h : P x cs) : oIx (.tup (x :: xs)) (.int 0) cs P := r_ixT (atD_zero x xs) h
def rsh (b : Bx) (dn : Bool) (S W w : Int) : Rat := shapeR ((if dn then b.h else b.w) * Rat.divInt S W) ((if dn then b.w else b.h) * Rat.divInt w S)
def rowShape (b : Bx) (dn : Bool) (ws : List Int) (i n : Nat) : Rat := maxL (((ws.drop i).take n).map (rsh b dn ((ws.drop i).take n).sum ws.sum))
theorem SzOk.at_ {zs : List Int} {n : Nat} (h : SzOk zs n) {i : Nat} {z : Int} (hz : zs[i]? = some z) : 1 ≤ z.toNat ∧ (preS zs i).toNat + z.toNat ≤ n ∧ 1 ≤ z ∧ 0 ≤ preS zs i ∧ preS zs i + z ≤ n := by
  have h1 := preS_nonneg h.pos i
  have h2 := h.pre_le (i + 1)
  have h3 := h.pos z (List.mem_of_getElem? hz)
  rw [preS_succ hz] at h2
  omega in
#guard_msgs (pass all) in open Nat
end DL
namespace DL
open PySem PySem.Spec PyProof.Rows L2
def absR (x : Rat) : Rat := if x < 0 then -x else x
theorem Sz.absR {n : Nat} {x : Rat} (h : Sz n x) : Sz n (absR x) := by
  unfold DL.absR
  split
  · exact h.neg
  · exact h
end DL
namespace DL
open PySem PySem.Spec PyProof.Rows L2
theorem ref_inj {o : Option Value} {a b : Addr} (h1 : o = some (.ref a)) (h2 : o = some (.ref b)) : a = b := by
  rw [h1] at h2
  cases h2
  rfl in
#guard_msgs (pass all) in open Nat
def sp_law : DSp := fun ds cs P _ => ∃ ns : List Int, ds = [.lst (ns.map D.int)] ∧ ns.length ≤ 63 ∧ cs = [] ∧ ∀ cs', P (.bl true) cs'
theorem calmF {P : Program} {w : World} {K : PySem.W.Frag} {mg : Str → Option Value} {base : Heap} {k : Nat} {f : Addr} {fd : FuncData} {ps : List Str} {sp : Sp} (h : FnOk P w K mg base (L2.CX P w) k f fd ps sp) :
    FnOk P w K mg base CX0 k f fd ps (fun vs H Q _ => sp vs H Q fun _ _ _ => False) := by
  refine ⟨fun vs H Q E q => h.len vs H Q _ q, fun A outer s H args us vs Q E hr e0 hb r q => ?_⟩
  refine codeAny_mono (h.run A outer s H args us vs Q (fun _ _ _ => False) hr e0 hb r q) fun r s' hq => ?_
  cases r with
  | error e =>
    obtain ⟨_, _, _, _, _, _, _, _, _, _, _, _, z⟩ := hq
    exact z.elim
  | ok fl => cases fl <;> exact hq in
#guard_msgs (pass all) in open Nat
end DL
namespace DL
open PySem PySem.Spec PyProof.Rows L2
section
variable {κ : Type} [DecidableEq κ] {α : Type}
/-- what a table holds at k -/
def lk (kvs : List (κ × α)) (k : κ) : Option α := match kvs with
  | [] => none
  | p :: r => if p.1 = k then some p.2 else lk r k
/-- a table with k at v -/
def putD (kvs : List (κ × α)) (k : κ) (v : α) : List (κ × α) :=
  if (lk kvs k).isSome = true then kvs.map fun p => (p.1, if p.1 = k then v else p.2) else kvs ++ [(k, v)]
theorem look_pos {p : κ × α} {r : List (κ × α)} {k : κ} (e : p.1 = k) : lk (p :: r) k = some p.2 := by
  rw [lk, if_pos e] in
#guard_msgs (pass all) in open Nat
theorem look_neg {p : κ × α} {r : List (κ × α)} {k : κ} (e : ¬ p.1 = k) : lk (p :: r) k = lk r k := by
  rw [lk, if_neg e] in
#guard_msgs (pass all) in open Nat
theorem putD_len (kvs : List (κ × α)) (k : κ) (v : α) : (putD kvs k v).length ≤ kvs.length + 1 := by
  unfold putD
  split
  · rw [List.length_map]; exact Nat.le_succ _
  · rw [List.length_append]; exact Nat.le_refl _ in
#guard_msgs (pass all) in open Nat
/-- a table made of a list: by a key that is one's own -/
theorem look_map {γ : Type} (f : γ → κ) (g : γ → α) (x : γ) : ∀ (l : List γ), x ∈ l → (∀ y ∈ l, f y = f x → y = x) → lk (l.map fun y => (f y, g y)) (f x) = some (g x)
  | [], h, _ => by cases h
  | y :: r, h, hi => by
    rw [List.map_cons]
    by_cases e : f y = f x
    · rw [look_pos (p := (f y, g y)) e, hi y (List.mem_cons_self ..) e]
    · rw [look_neg (p := (f y, g y)) e]
      refine look_map f g x r ?_ fun z hz => hi z (List.mem_cons_of_mem _ hz)
      rcases List.mem_cons.mp h with q | q
      · exact absurd (by rw [q]) e
      · exact q in
#guard_msgs (pass all) in open Nat
end
inductive RG (K : PySem.W.Frag) (G : Hp) {κ : Type} : List (κ × V) → List (κ × D) → Prop
  | nil : RG K G [] []
  | cons {k : κ} {v : V} {vs : List (κ × V)} {d : D} {ds : List (κ × D)} : Rep K G v d → RG K G vs ds → RG K G ((k, v) :: vs) ((k, d) :: ds)
def RepQ (K : PySem.W.Frag) (G : Hp) : Option V → Option D → Prop
  | none, none => True
  | some v, some d => Rep K G v d
  | _, _ => False
section
variable {K : PySem.W.Frag} {G G' : Hp} {κ : Type} [DecidableEq κ]
theorem RepK.rg : ∀ {xs : List (Key × V)} {ds : List (Key × D)}, RepK K G xs ds → RG K G xs ds
  | _, _, .nil => .nil
  | _, _, .cons h r => .cons h r.rg
theorem RepT.rg : ∀ {xs : List (List Key × V)} {ds : List (List Key × D)}, RepT K G xs ds → RG K G xs ds
  | _, _, .nil => .nil
  | _, _, .cons h r => .cons h r.rg
theorem RG.rk {xs : List (Key × V)} {ds : List (Key × D)} (h : RG K G xs ds) : RepK K G xs ds := by
  induction h with
  | nil => exact .nil
  | cons h _ ih => exact .cons h ih in
#guard_msgs (pass all) in open Nat
theorem RG.rt {xs : List (List Key × V)} {ds : List (List Key × D)} (h : RG K G xs ds) : RepT K G xs ds := by
  induction h with
  | nil => exact .nil
  | cons h _ ih => exact .cons h ih in
#guard_msgs (pass all) in open Nat
theorem RG.mono (e : Ex G G') {xs : List (κ × V)} {ds : List (κ × D)} (h : RG K G xs ds) : RG K G' xs ds := by
  induction h with
  | nil => exact .nil
  | cons h _ ih => exact .cons (h.mono e) ih in
#guard_msgs (pass all) in open Nat
theorem RG.length {xs : List (κ × V)} {ds : List (κ × D)} (h : RG K G xs ds) : xs.length = ds.length := by
  induction h with
  | nil => rfl
  | cons _ _ ih => rw [List.length_cons, List.length_cons, ih] in
#guard_msgs (pass all) in open Nat
theorem RG.keys {xs : List (κ × V)} {ds : List (κ × D)} (h : RG K G xs ds) : xs.map (·.1) = ds.map (·.1) := by
  induction h with
  | nil => rfl
  | cons _ _ ih => rw [List.map_cons, List.map_cons, ih] in
#guard_msgs (pass all) in open Nat
theorem RG.val {xs : List (κ × V)} {ds : List (κ × D)} (h : RG K G xs ds) (k : κ) : RepQ K G (valV xs k) (lk ds k) := by
  induction h with
  | nil => exact True.intro
  | @cons j v vs d ds hr _ ih =>
    by_cases e : j = k
    · rw [valV_pos (p := (j, v)) e, look_pos (p := (j, d)) e]; exact hr
    · rw [valV_neg (p := (j, v)) e, look_neg (p := (j, d)) e]; exact ih in
#guard_msgs (pass all) in open Nat
theorem RG.app {xs ys : List (κ × V)} {ds es : List (κ × D)} (h : RG K G xs ds) (h2 : RG K G ys es) : RG K G (xs ++ ys) (ds ++ es) := by
  induction h with
  | nil => exact h2
  | cons h _ ih => exact .cons h ih in
#guard_msgs (pass all) in open Nat
theorem RG.put {xs : List (κ × V)} {ds : List (κ × D)} (h : RG K G xs ds) (k : κ) {v : V} {d : D} (r : Rep K G v d) : RG K G (putK xs k v) (putD ds k d) := by
  have q := h.val k
  unfold putK putD
  rw [valV_any]
  have e : (valV xs k).isSome = (lk ds k).isSome := by
    revert q
    cases valV xs k <;> cases lk ds k <;> intro q <;> first | rfl | exact (show False from q).elim
  rw [e]
  by_cases a : (lk ds k).isSome = true
  · rw [if_pos a, if_pos a]
    clear q e a
    induction h with
    | nil => exact .nil
    | @cons j v' vs d' ds hr _ ih =>
      rw [List.map_cons, List.map_cons]
      by_cases z : j = k
      · have e1 : (if (j, v').1 = k then ((j, v').1, v) else (j, v')) = (j, v) := if_pos z
        have e2 : ((j, d').1, if (j, d').1 = k then d else (j, d').2) = (j, d) := by rw [if_pos z]
        rw [e1, e2]; exact .cons r ih
      · have e1 : (if (j, v').1 = k then ((j, v').1, v) else (j, v')) = (j, v') := if_neg z
        have e2 : ((j, d').1, if (j, d').1 = k then d else (j, d').2) = (j, d') := by rw [if_neg z]
        rw [e1, e2]; exact .cons hr ih
  · rw [if_neg a, if_neg a]
    exact h.app (.cons r .nil) in
#guard_msgs (pass all) in open Nat
theorem RG.get {xs : List (κ × V)} {ds : List (κ × D)} (h : RG K G xs ds) : ∀ {i : Nat} {k : κ} {d : D}, ds[i]? = some (k, d) → ∃ v, xs[i]? = some (k, v) ∧ Rep K G v d := by
  induction h with
  | nil => intro i k d e; simp at e
  | @cons j v vs d' ds hr _ ih =>
    intro i k d e
    cases i with
    | zero =>
      simp at e
      obtain ⟨rfl, rfl⟩ := e
      exact ⟨v, rfl, hr⟩
    | succ i => simpa using ih (by simpa using e) in
#guard_msgs (pass all) in open Nat
theorem RepQ.isSome {o : Option V} {d : Option D} (h : RepQ K G o d) : o.isSome = d.isSome := by
  cases o <;> cases d <;> first | rfl | exact (show False from h).elim in
#guard_msgs (pass all) in open Nat
theorem RepQ.some_ {o : Option V} {d : D} (h : RepQ K G o (some d)) : ∃ v, o = some v ∧ Rep K G v d := by
  cases o with
  | none => exact (show False from h).elim
  | some v => exact ⟨v, rfl, h⟩ in
#guard_msgs (pass all) in open Nat
theorem RepQ.getD {o : Option V} {d : Option D} {v : V} {e : D} (h : RepQ K G o d) (r : Rep K G v e) : Rep K G (o.getD v) (d.getD e) := by
  cases o <;> cases d <;> first | exact r | exact h | exact (show False from h).elim in
#guard_msgs (pass all) in open Nat
end
def kD : Key → D
  | .inl i => .int i
  | .inr x => .str x
def kOf : D → Option Key
  | .int i => some (.inl i)
  | .str x => some (.inr x)
  | _ => none
def ksOf : List D → Option (List Key)
  | [] => some []
  | d :: r => match kOf d, ksOf r with
    | some k, some ks => some (k :: ks)
    | _, _ => none
section
variable {K : PySem.W.Frag} {G : Hp}
theorem kOf_rep {v : V} {d : D} {k : Key} (h : kOf d = some k) (r : Rep K G v d) : v = kV k := by
  cases d <;> simp [kOf] at h
  · subst h; cases r; rfl
  · subst h; cases r; rfl in
#guard_msgs (pass all) in open Nat
theorem kD_rep (k : Key) : Rep K G (kV k) (kD k) := by
  cases k with
  | inl i => exact .int i
  | inr x => exact .str x
theorem ksD_rep : ∀ (ks : List Key), RepL K G (ks.map kV) (ks.map kD)
  | [] => .nil
  | k :: r => .cons (kD_rep k) (ksD_rep r)
theorem ksOf_inv {d : D} {r : List D} {ks : List Key} (h : ksOf (d :: r) = some ks) : ∃ k q, kOf d = some k ∧ ksOf r = some q ∧ ks = k :: q := by
  simp only [ksOf] at h
  split at h
  · rename_i k q e1 e2
    cases h
    exact ⟨k, q, e1, e2, rfl⟩
  · cases h in
#guard_msgs (pass all) in open Nat
theorem ksOf_rep : ∀ {vs : List V} {ds : List D} {ks : List Key}, ksOf ds = some ks → RepL K G vs ds → vs = ks.map kV
  | _, [], ks, h, .nil => by cases h; rfl
  | _, d :: ds, ks, h, .cons r rs => by
    obtain ⟨k, q, e1, e2, rfl⟩ := ksOf_inv h
    rw [List.map_cons, kOf_rep e1 r, ksOf_rep e2 rs]
end
abbrev DD := List (Key × D) ⊕ List (List Key × D)
def ddAt (x : D) (cs : Cs) : Option DD := match x with
  | .dic kvs => some (.inl kvs)
  | .dct kvs => some (.inr kvs)
  | .opq (.ref p) => (match look p cs with
    | some (.dic kvs) => some (.inl kvs)
    | some (.dct kvs) => some (.inr kvs)
    | _ => none)
  | _ => none
def getV (x y : D) (cs : Cs) : Option (Option D) := match ddAt x cs with
  | some (.inl kvs) => (kOf y).map fun k => lk kvs k
  | some (.inr kvs) => (match y with
    | .tup ds => (ksOf ds).map fun ks => lk kvs ks
    | _ => none)
  | none => none
/-- what the dict at a holds at the key y -/
def LookX (K : PySem.W.Frag) (H : Hp) (a : Addr) (y : V) (r : Option V) : Prop :=
  (∃ kvs k, Rd H a (.dK kvs) ∧ y = kV k ∧ r = valV kvs k) ∨ ∃ kvs ks b, Rd H a (.dT kvs) ∧ y = .ref b ∧ SqT K H b (ks.map kV) ∧ r = valV kvs ks
section
variable {K : PySem.W.Frag} {F H : Hp} {cs : Cs}
theorem dd_k {x : V} {dx : D} {kvs : List (Key × D)} (s : Sta K F (pur F cs H) cs H) (r : Rep K (pur F cs H) x dx) (h : ddAt dx cs = some (.inl kvs)) : ∃ a xs, x = .ref a ∧ Rd H a (.dK xs) ∧ RG K (pur F cs H) xs kvs := by
  unfold ddAt at h
  split at h
  · cases h
    cases r with
    | dic e q => exact ⟨_, _, rfl, .inr ⟨_, pur_le _ _ e⟩, q.rg⟩
  · cases h
  · rename_i p
    split at h
    · rename_i kvs' e
      cases h
      cases r
      obtain ⟨o, e1, q⟩ := s.look e
      cases o <;> first | exact ⟨p, _, rfl, .inl e1, RepK.rg q⟩ | exact q.elim
    · cases h
    · cases h
  · cases h in
#guard_msgs (pass all) in open Nat
theorem dd_t {x : V} {dx : D} {kvs : List (List Key × D)} (s : Sta K F (pur F cs H) cs H) (r : Rep K (pur F cs H) x dx) (h : ddAt dx cs = some (.inr kvs)) : ∃ a xs, x = .ref a ∧ Rd H a (.dT xs) ∧ RG K (pur F cs H) xs kvs := by
  unfold ddAt at h
  split at h
  · cases h
  · cases h
    cases r with
    | dct e q => exact ⟨_, _, rfl, .inr ⟨_, pur_le _ _ e⟩, q.rg⟩
  · rename_i p
    split at h
    · cases h
    · rename_i kvs' e
      cases h
      cases r
      obtain ⟨o, e1, q⟩ := s.look e
      cases o <;> first | exact ⟨p, _, rfl, .inl e1, RepT.rg q⟩ | exact q.elim
    · cases h
  · cases h in
#guard_msgs (pass all) in open Nat
theorem getV_ok {x y : V} {dx dy : D} {o : Option D} (s : Sta K F (pur F cs H) cs H) (rx : Rep K (pur F cs H) x dx) (ry : Rep K (pur F cs H) y dy) (h : getV dx dy cs = some o) :
    ∃ a r, x = .ref a ∧ LookX K H a y r ∧ RepQ K (pur F cs H) r o := by
  unfold getV at h
  split at h
  · rename_i kvs e
    obtain ⟨a, xs, rfl, h1, h2⟩ := dd_k s rx e
    obtain ⟨k, hk, rfl⟩ := Option.map_eq_some_iff.mp h
    exact ⟨a, _, rfl, .inl ⟨xs, k, h1, kOf_rep hk ry, rfl⟩, h2.val k⟩
  · rename_i kvs e
    obtain ⟨a, xs, rfl, h1, h2⟩ := dd_t s rx e
    split at h
    · rename_i ds
      obtain ⟨ks, hk, rfl⟩ := Option.map_eq_some_iff.mp h
      cases ry with
      | tup q r =>
        refine ⟨a, _, rfl, .inr ⟨xs, ks, _, h1, rfl, ?_, rfl⟩, h2.val ks⟩
        rw [← ksOf_rep hk r]
        exact ex_t pur_le q
    · cases h
  · cases h in
#guard_msgs (pass all) in open Nat
end
section
variable {X : Cx} {pins : List (Addr × Obj)} {σ : L2.St} {H : Hp} {s : Shared} {a b : Addr} {y v z : V} {u r : Value} {o : Option V} {A : Around} {E : Value → Shared → Prop}
theorem tup_key (I : Inv X pins σ H s) {ks : List Key} (h : SqT X.K H b (ks.map kV)) : (tupleKind (mixKind X.prog X.w)).is s.heap ks b := by
  obtain ⟨its, rv, ⟨ob, h1, h2, n, h3⟩, _⟩ := I.tuple h
  exact ⟨ob, its.toArray, n, h1, h2, h3, by simpa using items_are rv⟩ in
#guard_msgs (pass all) in open Nat
theorem lookX_isD (g : LookX X.K H a y o) : IsD H a := by
  rcases g with ⟨kvs, k, e, _⟩ | ⟨kvs, k, b, e, _⟩
  · exact .inl ⟨kvs, e⟩
  · exact .inr ⟨kvs, e⟩ in
#guard_msgs (pass all) in open Nat
theorem x_getItem {Q : Value → Shared → Prop} (hu : A.units + 1 < cLine) (I : Inv X pins σ H s) (g : LookX X.K H a y (some v)) (ry : RelV y u) (h : ∀ w' s', Inv X pins σ H s' → RelV v w' → Q w' s') :
    wpAny (model X.prog X.w) A (getItem (.ref a) u) Q E s := by
  rcases g with g | ⟨kvs, k, b, e, rfl, eb, l⟩
  · exact d_getItem hu I (.inl g) ry h
  · cases (show u = Value.ref b from ry)
    obtain ⟨_, hd, xs, rel, dd⟩ := dt_rd I.hok e
    obtain ⟨w1, hw, r1⟩ := RelO.some_of (v := v) (o := (atKey xs k).map (·.2)) (by rw [l]; exact rel.val k)
    obtain ⟨p, hp, rfl⟩ := Option.map_eq_some_iff.mp hw
    exact wpAny_getItem_heap (tupleKind_room_in1 hu) (tup_key I eb) dd hp (h _ _ (I.tok _) r1) in
#guard_msgs (pass all) in open Nat
theorem x_in {Q : Value → Shared → Prop} (hu : A.units + 1 < cLine) (I : Inv X pins σ H s) (g : LookX X.K H a y o) (ry : RelV y u) (h : ∀ s', Inv X pins σ H s' → Q (.bool o.isSome) s') :
    wpAny (model X.prog X.w) A (compareOp .In u (.ref a)) Q E s := by
  rcases g with g | ⟨kvs, k, b, e, rfl, eb, l⟩
  · exact L2.d_in hu I (.inl g) ry h
  · cases (show u = Value.ref b from ry)
    obtain ⟨_, hd, xs, rel, dd⟩ := dt_rd I.hok e
    have q := (rel.val k).isSome_eq
    rw [Option.isSome_map, ← l] at q
    refine wpAny_in_heap (tupleKind_room_in1 hu) (tup_key I eb) hd dd ?_
    rw [← q]
    exact h _ (I.tok _) in
#guard_msgs (pass all) in open Nat
theorem x_notIn {Q : Value → Shared → Prop} (hu : A.units + 1 < cLine) (I : Inv X pins σ H s) (g : LookX X.K H a y o) (ry : RelV y u) (h : ∀ s', Inv X pins σ H s' → Q (.bool (!o.isSome)) s') :
    wpAny (model X.prog X.w) A (compareOp .NotIn u (.ref a)) Q E s := by
  rcases g with g | ⟨kvs, k, b, e, rfl, eb, l⟩
  · exact d_notIn hu I (.inl g) ry h
  · cases (show u = Value.ref b from ry)
    obtain ⟨_, hd, xs, rel, dd⟩ := dt_rd I.hok e
    have q := (rel.val k).isSome_eq
    rw [Option.isSome_map, ← l] at q
    refine wpAny_notIn_heap (tupleKind_room_in1 hu) (tup_key I eb) hd dd ?_
    rw [← q]
    exact h _ (I.tok _) in
#guard_msgs (pass all) in open Nat
theorem x_get2 {Q : Value → Shared → Prop} (hu : A.units + 1 < cLine) (I : Inv X pins σ H s) (g : LookX X.K H a y o) (ry : RelV y u) (rz : RelV z r) (h : ∀ w' s', Inv X pins σ H s' → RelV (o.getD z) w' → Q w' s') :
    wpAny (model X.prog X.w) A (call (.builtin "dict.get") [.ref a, u, r]) Q E s := by
  rcases g with g | ⟨kvs, k, b, e, rfl, eb, l⟩
  · exact d_get2 hu I (.inl g) ry rz h
  · cases (show u = Value.ref b from ry)
    obtain ⟨_, hd, xs, rel, dd⟩ := dt_rd I.hok e
    refine call_meetsIn PySem.F.slot_dict_get dd.typeIs PySem.F.entry_dict_get (PySem.F.args_dict_get_3 _ _ _) (meetsH_dict_get_default (tupleKind (mixKind X.prog X.w)) a b hd r) ⟨tupleKind_room_in1 hu, k, xs, tup_key I eb, dd, ?_⟩
    refine h _ _ (I.tok _) ?_
    rw [l]; exact (rel.val k).getD rz in
#guard_msgs (pass all) in open Nat
end
def rDGet (K : PySem.W.Frag) : R2 := fun x y H Q => ∃ a v, x = .ref a ∧ LookX K H a y (some v) ∧ Q v H
def rDIn (K : PySem.W.Frag) : R2 := fun y x H Q => ∃ a o, x = .ref a ∧ LookX K H a y o ∧ Q (.bl o.isSome) H
def rDNotIn (K : PySem.W.Frag) : R2 := fun y x H Q => ∃ a o, x = .ref a ∧ LookX K H a y o ∧ Q (.bl (!o.isSome)) H
def oGetD : DO2 := fun x y cs P => ∃ d, getV x y cs = some (some d) ∧ P d cs
def oInD : DO2 := fun y x cs P => ∃ o, getV x y cs = some o ∧ P (.bl o.isSome) cs
def oNotInD : DO2 := fun y x cs P => ∃ o, getV x y cs = some o ∧ P (.bl (!o.isSome)) cs
section
variable {X : Cx} {W : WX} {K : PySem.W.Frag} {σ : L2.St} {H : Hp} {a b c e : Expr} {wa wb wc we : DL.WE} {pos : Pos}
theorem adq_getD : Adq K (rDGet K) oGetD := fun F cs H x y dx dy P Q s rx ry ho pe => by
  obtain ⟨d, h1, h2⟩ := ho
  obtain ⟨p, r, rfl, h3, h4⟩ := getV_ok s rx ry h1
  obtain ⟨v, rfl, h5⟩ := h4.some_
  exact ⟨p, v, rfl, h3, pe H cs _ _ s h5 h2⟩
theorem adq_inD : Adq K (rDIn K) oInD := fun F cs H x y dx dy P Q s rx ry ho pe => by
  obtain ⟨d, h1, h2⟩ := ho
  obtain ⟨p, r, rfl, h3, h4⟩ := getV_ok s ry rx h1
  exact ⟨p, r, rfl, h3, pe H cs _ _ s (by rw [h4.isSome]; exact .bl _) h2⟩
theorem adq_notInD : Adq K (rDNotIn K) oNotInD := fun F cs H x y dx dy P Q s rx ry ho pe => by
  obtain ⟨d, h1, h2⟩ := ho
  obtain ⟨p, r, rfl, h3, h4⟩ := getV_ok s ry rx h1
  exact ⟨p, r, rfl, h3, pe H cs _ _ s (by rw [h4.isSome]; exact .bl _) h2⟩
theorem pe_getX {ta tb : TE} (hu : X.A.units + 64 < cLine) (ho : PE X a ta) (hi : PE X b tb) (hs : NoSl b) : PE X (.Subscript a b pos) (tOp (rDGet X.K) ta tb) := by
  refine ⟨fun pins s σ H Q I h => ?_⟩
  refine subD_of PySem.F.slot_dict_getitem.lookup hs (thn (ho.run pins s σ H _ I h) fun u s1 ⟨x, H1, I1, rx, q1⟩ => thn (hi.run pins s1 σ H1 _ I1 q1) fun iv s2 ⟨y, H2, I2, ry, p, v, ex, g, q2⟩ => ?_)
  subst ex
  obtain rfl : u = Value.ref p := rx
  exact ⟨(isD_at I2 (lookX_isD g)).1, x_getItem (by omega) I2 g ry fun w' s3 I3 rw' => ⟨v, H2, I3, rw', q2⟩⟩ in
#guard_msgs (pass all) in open Nat
theorem op_inX (hu : X.A.units + 64 < cLine) : OpR X (compareOp .In) (rDIn X.K) := by
  intro pins s σ H x y v u Q I rx ry h
  obtain ⟨p, o, rfl, g, q⟩ := h
  obtain rfl : u = Value.ref p := ry
  exact x_in (by omega) I g rx fun s3 I3 => ⟨.bl o.isSome, H, I3, rfl, q⟩ in
#guard_msgs (pass all) in open Nat
theorem op_notInX (hu : X.A.units + 64 < cLine) : OpR X (compareOp .NotIn) (rDNotIn X.K) := by
  intro pins s σ H x y v u Q I rx ry h
  obtain ⟨p, o, rfl, g, q⟩ := h
  obtain rfl : u = Value.ref p := ry
  exact x_notIn (by omega) I g rx fun s3 I3 => ⟨.bl (!o.isSome), H, I3, rfl, q⟩ in
#guard_msgs (pass all) in open Nat
theorem d_getD (hu : X.A.units + 64 < cLine) (ha : DE X W a wa) (hb : DE X W b wb) (hs : NoSl b := by intro _ _; rfl) : DE X W (.Subscript a b pos) (wOp oGetD wa wb) := PE.imp (pe_getX hu ha hb hs) fun _ _ _ h => bin_ok adq_getD h in
#guard_msgs (pass all) in open Nat
theorem d_inD (hu : X.A.units + 64 < cLine) (ha : DE X W a wa) (hb : DE X W b wb) (hm : behindInMarks .In b = false := by rfl) : DE X W (.Compare a [.In] [b] pos) (wOp oInD wa wb) := d_cmp (op_inX hu) adq_inD ha hb hm in
#guard_msgs (pass all) in open Nat
theorem dt_inD (hu : X.A.units + 64 < cLine) (ha : DE X W a wa) (hb : DE X W b wb) (hm : behindInMarks .In b = false := by rfl) : DT X W (.Compare a [.In] [b] pos) (wTest (wOp oInD wa wb)) := dt_cmp (op_inX hu) adq_inD ha hb hm in
#guard_msgs (pass all) in open Nat
theorem dt_notinD (hu : X.A.units + 64 < cLine) (ha : DE X W a wa) (hb : DE X W b wb) (hm : behindInMarks .NotIn b = false := by rfl) : DT X W (.Compare a [.NotIn] [b] pos) (wTest (wOp oNotInD wa wb)) := dt_cmp (op_notInX hu) adq_notInD ha hb hm in
#guard_msgs (pass all) in open Nat
def wNewK : DL.WE := fun _ cs P _ => ∀ p, p ∉ adr cs → P (.opq (.ref p)) ((p, .dic []) :: cs)
def wNewT : DL.WE := fun _ cs P _ => ∀ p, p ∉ adr cs → P (.opq (.ref p)) ((p, .dct []) :: cs)
theorem d_newK : DE X W (.Dict [] [] pos) wNewK := PE.imp pe_dnewK fun σ H Q ⟨F, cs, ρ, P, Z, s, re, hw, pe, px⟩ p hp =>
  pe _ _ _ _ (s.newM (m := .dic []) (o := .dK []) hp RepK.nil) (.opq _) (hw p (s.notin hp).2)
/-- {k: v}, the key an int or a text -/
def wOneK (wk wv : DL.WE) : DL.WE := fun ρ cs P Z => ∀ p, p ∉ adr cs → wk ρ ((p, .dic []) :: cs) (fun k cs1 => wv ρ cs1 (fun v cs2 => ∃ kk, kOf k = some kk ∧ look p cs2 = some (.dic []) ∧ P (.opq (.ref p)) (put p (.dic [(kk, v)]) cs2)) Z) Z
theorem pur_at_no {F H' : Hp} {cs : Cs} {p : Addr} (h : p ∈ adr cs) : pur F cs H' p = none := by
  unfold pur; exact if_pos (.inr h) in
#guard_msgs (pass all) in open Nat
theorem dic_at {F G0 : Hp} {cs : Cs} {p : Addr} {ds : List (Key × D)} (s : Sta K F G0 cs H) (h : look p cs = some (.dic ds)) : ∃ vs, H p = some (.dK vs) ∧ RG K (pur F cs H) vs ds := by
  obtain ⟨o, e, q⟩ := s.look h
  cases o <;> first | exact ⟨_, e, RepK.rg q⟩ | exact q.elim in
#guard_msgs (pass all) in open Nat
theorem dct_at {F G0 : Hp} {cs : Cs} {p : Addr} {ds : List (List Key × D)} (s : Sta K F G0 cs H) (h : look p cs = some (.dct ds)) : ∃ vs, H p = some (.dT vs) ∧ RG K (pur F cs H) vs ds := by
  obtain ⟨o, e, q⟩ := s.look h
  cases o <;> first | exact ⟨_, e, RepT.rg q⟩ | exact q.elim in
#guard_msgs (pass all) in open Nat
theorem d_oneK {k v : Expr} {wk wv : DL.WE} (hk : DE X W k wk) (hv : DE X W v wv) : DE X W (.Dict [some k] [v] pos) (wOneK wk wv) :=
  PE.imp (pe_disp (pps_cons hk hv pps_nil) rfl rfl (fun z => by cases z) (Nat.le_of_lt_succ (by show 1 < 16; decide))) fun σ H Q h p hp => by
    obtain ⟨F, cs, ρ, P, Z, s, re, hw, pe, px⟩ := h
    have s1 := s.newM (m := .dic []) (o := .dK []) hp RepK.nil
    refine ⟨F, _, ρ, _, Z, s1.self, re.mono s1.gr, hw p (s.notin hp).2, fun H2 cs2 x dx s2 r2 h2 => ?_, px.le s1.gr⟩
    refine ⟨F, cs2, ρ, _, Z, s2.self, re.mono (s1.gr.trans s2.gr), h2, fun H3 cs3 y dy s3 r3 h3 => ?_, px.le (s1.gr.trans s2.gr)⟩
    obtain ⟨kk, e1, e2, h4⟩ := h3
    obtain ⟨vs, e3, e4⟩ := dic_at s3 e2
    cases e4
    have s4 := s3.put e2 (m' := .dic [(kk, dy)]) (o' := .dK [(kk, y)]) (RepK.cons r3 .nil)
    refine ⟨e3, [(kk, y)], by rw [kOf_rep e1 r2]; rfl, (by show 1 ≤ 15; decide), ?_⟩
    exact pe _ _ _ _ (s4.from_ ((s1.gr.trans s2.gr).trans s3.gr)) (.opq _) h4 in
#guard_msgs (pass all) in open Nat
theorem pe_keepLock {t : TE} (h : PE X e t) : PE X e (fun σ H Q => t σ H fun v H' => ∃ d u, v = .ref d ∧ H' d = some u ∧ Mut (some u) ∧ ∀ od, Q v (upd H' d (.frz od u))) := by
  refine ⟨fun pins s σ H Q I hw => ?_⟩
  refine thn (h.run pins s σ _ _ I hw) fun v s1 ⟨x, H1, I1, r, d, u, ex, hd, mu, q⟩ => ?_
  obtain ⟨od, I2⟩ := I1.lock hd mu
  exact ⟨x, _, I2, r, q od⟩ in
#guard_msgs (pass all) in open Nat
theorem Sta.lockD {F G0 : Hp} {cs : Cs} {p : Addr} {m : MO} {u : HO} (s : Sta K F G0 cs H) (hl : DL.look p cs = some m) (hu : H p = some u) (od : Obj) :
    Sta K F G0 (del p cs) (upd H p (.frz od u)) ∧ Ex (pur F cs H) (pur F (del p cs) (upd H p (.frz od u))) ∧ pur F (del p cs) (upd H p (.frz od u)) p = some (.frz od u) := by
  obtain ⟨n1, n2⟩ := nd_del (p := p) s.nd
  have hp : p ∈ adr cs := List.mem_map.mpr ⟨(p, m), look_mem hl, rfl⟩
  have hF : F p = none := s.ap p hp
  have g : Ex (pur F cs H) (pur F (del p cs) (upd H p (.frz od u))) := fun b w e => by
    obtain ⟨e1, e2, e3⟩ := pur_of e
    have hb : b ≠ p := fun z => e3 (by rw [z]; exact hp)
    rw [pur_at e2 fun z => e3 (adr_del z), upd_ne hb]; exact e1
  refine ⟨⟨fun b w e => ?_, s.gr.trans g, n1, fun a h => s.ap a (adr_del h), fun a m' h => ?_, s.ft⟩, g, by rw [pur_at hF n2, upd_same]⟩
  · rw [upd_ne fun z => by rw [z, hF] at e; cases e]; exact s.fr b w e
  · obtain ⟨w, hw, r⟩ := s.ow a m' (mem_del h)
    refine ⟨w, ?_, r.mono g⟩
    have ha : a ∈ adr (del p cs) := List.mem_map.mpr ⟨(a, m'), h, rfl⟩
    have hap : a ≠ p := fun z => n2 (by rw [z] at ha; exact ha)
    rw [upd_ne hap]; exact hw in
#guard_msgs (pass all) in open Nat
/-- a changing dict becomes data -/
def wLockD (we : DL.WE) : DL.WE := fun ρ cs P Z => we ρ cs (fun d cs1 => ∃ p, d = .opq (.ref p) ∧ ((∃ kvs, look p cs1 = some (.dic kvs) ∧ P (.dic kvs) (del p cs1)) ∨ ∃ kvs, look p cs1 = some (.dct kvs) ∧ P (.dct kvs) (del p cs1))) Z
theorem d_lockD (h : DE X W e we) : DE X W e (wLockD we) := PE.imp (pe_keepLock h) fun σ H Q hq => by
  obtain ⟨F, cs, ρ, P, Z, s, re, hw, pe, px⟩ := hq
  refine ⟨F, cs, ρ, _, Z, s, re, hw, fun H1 cs1 v d s1 r1 h1 => ?_, px⟩
  obtain ⟨p, rfl, ⟨kvs, hl, h2⟩ | ⟨kvs, hl, h2⟩⟩ := h1
  · cases r1
    obtain ⟨vs, e1, q1⟩ := dic_at s1 hl
    refine ⟨p, _, rfl, e1, True.intro, fun od => ?_⟩
    obtain ⟨s2, g2, e2⟩ := s1.lockD hl e1 od
    exact pe _ _ _ _ s2 (.dic e2 (q1.mono g2).rk) h2
  · cases r1
    obtain ⟨vs, e1, q1⟩ := dct_at s1 hl
    refine ⟨p, _, rfl, e1, True.intro, fun od => ?_⟩
    obtain ⟨s2, g2, e2⟩ := s1.lockD hl e1 od
    exact pe _ _ _ _ s2 (.dct e2 (q1.mono g2).rt) h2 in
#guard_msgs (pass all) in open Nat
def oSetDK : DSet := fun o i v cs Q => match o with
  | .opq (.ref p) => (match look p cs with
    | some (.dic ds) => ∃ k, kOf i = some k ∧ ds.length < 100000 ∧ Q (put p (.dic (putD ds k v)) cs)
    | _ => False)
  | _ => False
theorem setDK_inv {o i v : D} {cs : Cs} {Q : Cs → Prop} (h : oSetDK o i v cs Q) : ∃ p ds k, o = .opq (.ref p) ∧ look p cs = some (.dic ds) ∧ kOf i = some k ∧ ds.length < 100000 ∧ Q (put p (.dic (putD ds k v)) cs) := by
  unfold oSetDK at h
  split at h
  · split at h
    · rename_i e
      obtain ⟨k, h1, h2, h3⟩ := h
      exact ⟨_, _, k, rfl, e, h1, h2, h3⟩
    · exact h.elim
  · exact h.elim in
#guard_msgs (pass all) in open Nat
def rSetD : V → V → V → Hp → (Hp → Prop) → Prop := fun o i v H Q => ∃ p H', o = .ref p ∧ DPut H p i v H' ∧ Q H'
theorem set_dict (hu : X.A.units + 64 < cLine) : PSet X rSetD := by
  intro pins s σ H o i v ov iv u Q I ro ri rv h
  obtain ⟨p, H', rfl, g, q⟩ := h
  cases ro
  exact d_setItem (by omega) I g ri rv fun s4 I4 => ⟨H', I4, q⟩ in
#guard_msgs (pass all) in open Nat
theorem ds_setDK {o i v : Expr} {wo wi wv : DL.WE} {p1 : Pos} (hu : X.A.units + 64 < cLine) (hv : DE X W v wv) (ho : DE X W o wo) (hi : DE X W i wi)
    (ha : ∀ u, assign (.Subscript o i p1) X.env u = (do
      let ov ← holding [u] (eval o X.env)
      let iv ← holding [u, ov] (eval i X.env)
      standAt p1
      holding [u, ov, iv] (setItem ov iv u)
      release [u, ov, iv] []) := by intro _; rfl)
    (hs : swapsWithSole [.Subscript o i p1] v pos.line X.env = pure false := by rfl) (hw : swappedStores [.Subscript o i p1] v X.env = pure none := by rfl) (h1 : (assignEach [.Subscript o i p1] X.env).map (·.2) = [assign (.Subscript o i p1) X.env] := by rfl) :
    DS X W (.Assign [.Subscript o i p1] v pos) (sSetIx wv wo wi oSetDK) := PS.imp (ps_asg hv (pg_sub ho hi (set_dict hu) ha) hs hw h1) fun E σ H h => by
  obtain ⟨F, cs, ρ, f, s, re, hw, pe⟩ := h
  refine ⟨F, cs, ρ, _, _, s, re, hw, fun H1 cs1 y dy s1 r1 h1 => ?_, pe.px re⟩
  refine ⟨F, cs1, ρ, _, _, s1.self, re.mono s1.gr, h1, fun H2 cs2 x dx s2 r2 h2 => ?_, (pe.le s1.gr).px (re.mono s1.gr)⟩
  refine ⟨F, cs2, ρ, _, _, s2.self, re.mono (s1.gr.trans s2.gr), h2, fun H3 cs3 z dz s3 r3 h3 => ?_, (pe.le (s1.gr.trans s2.gr)).px (re.mono (s1.gr.trans s2.gr))⟩
  obtain ⟨p, ds, k, rfl, hl, hk, hz, h⟩ := setDK_inv h3
  obtain ⟨vs, e, rl⟩ := dic_at s3 hl
  cases r2
  have s4 := s3.put hl (m' := .dic (putD ds k dy)) (o' := .dK (putK vs k y)) (rl.put k (r1.mono (s2.gr.trans s3.gr))).rk
  refine ⟨p, _, rfl, .inl ⟨vs, k, e, kOf_rep hk r3, ?_, rfl⟩, ?_⟩
  · rw [rl.length]; exact Nat.lt_of_lt_of_le hz (by decide)
  have g := (s1.gr.trans s2.gr).trans s3.gr
  exact pe.nx _ _ σ ρ (s4.from_ g) (re.mono (g.trans s4.gr)) h in
#guard_msgs (pass all) in open Nat
/-- d[(a, ..)] = v -/
def oSetDT (p : D) (ds : List D) (v : D) (cs : Cs) (Q : Cs → Prop) : Prop := match p with
  | .opq (.ref p) => (match look p cs with
    | some (.dct xs) => ∃ ks, ksOf ds = some ks ∧ xs.length < 100000 ∧ Q (put p (.dct (putD xs ks v)) cs)
    | _ => False)
  | _ => False
def sSetT (wv wo : DL.WE) (w : WA) : WS := fun f ρ cs => wv ρ cs (fun v cs1 => wo ρ cs1 (fun x cs2 => w ρ cs2 (fun ds cs3 => oSetDT x ds v cs3 fun cs4 => f.nx ρ cs4) (fun x cs1 => f.ex x ρ cs1)) (fun x cs1 => f.ex x ρ cs1)) (fun x cs1 => f.ex x ρ cs1)
end
section
variable {ρ : DL.Env} {cs : Cs} {P : DP} {Z : XZ} {we wv wo wi wk : DL.WE} {w : WA} {d : D} {p : Addr} {i j : Int} {x : Str} {kvs : List (Key × D)} {kts : List (List Key × D)} {R : Cs → Prop}
theorem r_getKI (h1 : lk kvs (.inl i) = some d) (h : P d cs) : oGetD (.dic kvs) (.int i) cs P := ⟨d, by simp [getV, ddAt, kOf, h1], h⟩
theorem r_getKS (h1 : lk kvs (.inr x) = some d) (h : P d cs) : oGetD (.dic kvs) (.str x) cs P := ⟨d, by simp [getV, ddAt, kOf, h1], h⟩
theorem r_getT2 (h1 : lk kts [.inl i, .inl j] = some d) (h : P d cs) : oGetD (.dct kts) (.tup [.int i, .int j]) cs P := ⟨d, by simp [getV, ddAt, kOf, ksOf, h1], h⟩
theorem r_getMI (hl : look p cs = some (.dic kvs)) (h1 : lk kvs (.inl i) = some d) (h : P d cs) : oGetD (.opq (.ref p)) (.int i) cs P := ⟨d, by simp [getV, ddAt, hl, kOf, h1], h⟩
theorem r_getMS (hl : look p cs = some (.dic kvs)) (h1 : lk kvs (.inr x) = some d) (h : P d cs) : oGetD (.opq (.ref p)) (.str x) cs P := ⟨d, by simp [getV, ddAt, hl, kOf, h1], h⟩
theorem r_getMT2 (hl : look p cs = some (.dct kts)) (h1 : lk kts [.inl i, .inl j] = some d) (h : P d cs) : oGetD (.opq (.ref p)) (.tup [.int i, .int j]) cs P := ⟨d, by simp [getV, ddAt, hl, kOf, ksOf, h1], h⟩
theorem r_inKI (h : P (.bl (lk kvs (.inl i)).isSome) cs) : oInD (.int i) (.dic kvs) cs P := ⟨_, by simp [getV, ddAt, kOf], h⟩
theorem r_inKS (h : P (.bl (lk kvs (.inr x)).isSome) cs) : oInD (.str x) (.dic kvs) cs P := ⟨_, by simp [getV, ddAt, kOf], h⟩
theorem r_inT2 (h : P (.bl (lk kts [.inl i, .inl j]).isSome) cs) : oInD (.tup [.int i, .int j]) (.dct kts) cs P := ⟨_, by simp [getV, ddAt, kOf, ksOf], h⟩
theorem r_inMI (hl : look p cs = some (.dic kvs)) (h : P (.bl (lk kvs (.inl i)).isSome) cs) : oInD (.int i) (.opq (.ref p)) cs P := ⟨_, by simp [getV, ddAt, hl, kOf], h⟩
theorem r_inMS (hl : look p cs = some (.dic kvs)) (h : P (.bl (lk kvs (.inr x)).isSome) cs) : oInD (.str x) (.opq (.ref p)) cs P := ⟨_, by simp [getV, ddAt, hl, kOf], h⟩
theorem r_notKI (h : P (.bl (!(lk kvs (.inl i)).isSome)) cs) : oNotInD (.int i) (.dic kvs) cs P := ⟨_, by simp [getV, ddAt, kOf], h⟩
theorem r_notKS (h : P (.bl (!(lk kvs (.inr x)).isSome)) cs) : oNotInD (.str x) (.dic kvs) cs P := ⟨_, by simp [getV, ddAt, kOf], h⟩
theorem r_notMI (hl : look p cs = some (.dic kvs)) (h : P (.bl (!(lk kvs (.inl i)).isSome)) cs) : oNotInD (.int i) (.opq (.ref p)) cs P := ⟨_, by simp [getV, ddAt, hl, kOf], h⟩
theorem r_notMS (hl : look p cs = some (.dic kvs)) (h : P (.bl (!(lk kvs (.inr x)).isSome)) cs) : oNotInD (.str x) (.opq (.ref p)) cs P := ⟨_, by simp [getV, ddAt, hl, kOf], h⟩
theorem r_newK (h : ∀ p, p ∉ adr cs → P (.opq (.ref p)) ((p, .dic []) :: cs)) : wNewK ρ cs P Z := h
theorem r_newT (h : ∀ p, p ∉ adr cs → P (.opq (.ref p)) ((p, .dct []) :: cs)) : wNewT ρ cs P Z := h
theorem r_oneK (h : ∀ p, p ∉ adr cs → wk ρ ((p, .dic []) :: cs) (fun k cs1 => wv ρ cs1 (fun v cs2 => ∃ kk, kOf k = some kk ∧ look p cs2 = some (.dic []) ∧ P (.opq (.ref p)) (put p (.dic [(kk, v)]) cs2)) Z) Z) : wOneK wk wv ρ cs P Z := h
theorem r_lockD (h : we ρ cs (fun d cs1 => ∃ p, d = .opq (.ref p) ∧ ((∃ kvs, look p cs1 = some (.dic kvs) ∧ P (.dic kvs) (del p cs1)) ∨ ∃ kvs, look p cs1 = some (.dct kvs) ∧ P (.dct kvs) (del p cs1))) Z) : wLockD we ρ cs P Z := h
theorem r_lockK (h : P (.dic kvs) cs) : ∃ q, D.opq (.ref p) = .opq (.ref q) ∧ ((∃ kvs', look q ((p, .dic kvs) :: cs) = some (.dic kvs') ∧ P (.dic kvs') (del q ((p, .dic kvs) :: cs))) ∨ ∃ kvs', look q ((p, .dic kvs) :: cs) = some (.dct kvs') ∧ P (.dct kvs') (del q ((p, .dic kvs) :: cs))) := ⟨p, rfl, .inl ⟨kvs, by simp [look], by rw [del_hd]; exact h⟩⟩
theorem r_setKI (hz : kvs.length < 100000) (h : R ((p, .dic (putD kvs (.inl i) d)) :: cs)) : oSetDK (.opq (.ref p)) (.int i) d ((p, .dic kvs) :: cs) R := by
  unfold oSetDK; simp only [look, if_true]; exact ⟨.inl i, rfl, hz, by rw [put_hd]; exact h⟩ in
#guard_msgs (pass all) in open Nat
theorem r_setKS (hz : kvs.length < 100000) (h : R ((p, .dic (putD kvs (.inr x) d)) :: cs)) : oSetDK (.opq (.ref p)) (.str x) d ((p, .dic kvs) :: cs) R := by
  unfold oSetDK; simp only [look, if_true]; exact ⟨.inr x, rfl, hz, by rw [put_hd]; exact h⟩ in
#guard_msgs (pass all) in open Nat
theorem r_setT2 (hz : kts.length < 100000) (h : R ((p, .dct (putD kts [.inl i, .inl j] d)) :: cs)) : oSetDT (.opq (.ref p)) [.int i, .int j] d ((p, .dct kts) :: cs) R := by
  unfold oSetDT; simp only [look, if_true]; exact ⟨[.inl i, .inl j], rfl, hz, by rw [put_hd]; exact h⟩ in
#guard_msgs (pass all) in open Nat
section
variable {nx bk ct : DL.Env → Cs → Prop} {rt : D → Cs → Prop} {ex : Exn → DL.Env → Cs → Prop}
theorem q_setDK (h : wv ρ cs (fun v cs1 => wo ρ cs1 (fun x cs2 => wi ρ cs2 (fun i cs3 => oSetDK x i v cs3 fun cs4 => nx ρ cs4) (fun x cs1 => ex x ρ cs1)) (fun x cs1 => ex x ρ cs1)) (fun x cs1 => ex x ρ cs1)) : sSetIx wv wo wi oSetDK ⟨nx, rt, ex, bk, ct⟩ ρ cs := h
theorem q_setDT (h : wv ρ cs (fun v cs1 => wo ρ cs1 (fun x cs2 => w ρ cs2 (fun ds cs3 => oSetDT x ds v cs3 fun cs4 => nx ρ cs4) (fun x cs1 => ex x ρ cs1)) (fun x cs1 => ex x ρ cs1)) (fun x cs1 => ex x ρ cs1)) : sSetT wv wo w ⟨nx, rt, ex, bk, ct⟩ ρ cs := h
end
end
section
variable {ρ : DL.Env} {cs : Cs} {Z : XZ} {wa wb : DL.WE}
theorem r_rg2 {R : List D → Cs → Prop} (h : wa ρ cs (fun x cs1 => wb ρ cs1 (fun y cs2 => match x, y with | .int i, .int j => (-(2 ^ 62) ≤ i ∧ i < 2 ^ 62 ∧ -(2 ^ 62) ≤ j ∧ j < 2 ^ 62) ∧ R (rngD i (j - i).toNat) cs2 | _, _ => False) Z) Z) : iRg2 (wCons wa (wCons wb wNil)) ρ cs R Z := by
  unfold iRg2 wCons wNil
  have e : (fun (x : D) (cs1 : Cs) => wb ρ cs1 (fun (y : D) (cs2 : Cs) => (match [x, y] with | [D.int i, D.int j] => (-(2 ^ 62) ≤ i ∧ i < 2 ^ 62 ∧ -(2 ^ 62) ≤ j ∧ j < 2 ^ 62) ∧ R (rngD i (j - i).toNat) cs2 | _ => False)) Z)
      = fun (x : D) (cs1 : Cs) => wb ρ cs1 (fun y cs2 => match x, y with | .int i, .int j => (-(2 ^ 62) ≤ i ∧ i < 2 ^ 62 ∧ -(2 ^ 62) ≤ j ∧ j < 2 ^ 62) ∧ R (rngD i (j - i).toNat) cs2 | _, _ => False) Z := by
    funext x cs1
    congr 1
    funext y cs2
    cases x <;> cases y <;> rfl
  rw [← e] at h
  exact h in
#guard_msgs (pass all) in open Nat
end
end DL
namespace DL
open PySem PySem.Spec PyProof.Rows L2
section
variable {X : Cx} {W : WX} {K : PySem.W.Frag} {σ : L2.St} {H : Hp} {e : Expr} {we : DL.WE} {pos : Pos}
/-- a tuple that is tracked is data -/
theorem tup_pur {F : Hp} {cs : Cs} {q : Addr} {ys : List V} {G0 : Hp} (s : Sta K F G0 cs H) (h : H q = some (.tup ys)) : pur F cs H q = some (.tup ys) := by
  have hF : F q = none := by
    cases e : F q with
    | none => rfl
    | some o =>
      have := s.fr q o e
      rw [h] at this
      cases this
      exact absurd e (s.ft q ys)
  rw [pur_at hF fun z => ?_]
  · exact h
  · obtain ⟨⟨a, m⟩, hm, ea⟩ := List.mem_map.mp z
    obtain ⟨u, hu, r⟩ := s.ow a m hm
    have ea' : a = q := ea
    rw [ea', h] at hu
    cases hu
    cases m <;> exact r in
#guard_msgs (pass all) in open Nat
theorem yi_keysK {G : Hp} {a : Addr} {o : Obj} {xs : List (Key × V)} (h : G a = some (.frz o (.dK xs))) : YI K (Itk a o xs) G (xs.map fun p => kD p.1) where
  go := fun i d e F cs H s => by
    have z := (List.getElem?_eq_some_iff.mp e).1
    rw [List.length_map] at z
    exact ⟨pur_le _ _ (s.gr _ _ h), z⟩
  yld := fun i d e F cs H x H' s hy => by
    obtain ⟨rfl, k, v, e1, rfl⟩ := hy
    rw [List.getElem?_map, e1] at e
    cases e
    exact ⟨s.self, kD_rep k⟩
  stop := fun F cs H s => ⟨pur_le _ _ (s.gr _ _ h), by rw [List.length_map]; exact Nat.le_refl _⟩ in
#guard_msgs (pass all) in open Nat
theorem yi_keysT {G : Hp} {a : Addr} {o : Obj} {xs : List (List Key × V)} (h : G a = some (.frz o (.dT xs))) : YI K (Itkt a o xs) G (xs.map fun p => D.tup (p.1.map kD)) where
  go := fun i d e F cs H s => by
    have z := (List.getElem?_eq_some_iff.mp e).1
    rw [List.length_map] at z
    exact ⟨pur_le _ _ (s.gr _ _ h), z⟩
  yld := fun i d e F cs H x H' s hy => by
    obtain ⟨rfl, k, v, q, e1, rfl, e2⟩ := hy
    rw [List.getElem?_map, e1] at e
    cases e
    exact ⟨s.self, .tup (SqT.of (tup_pur s e2)) (ksD_rep k)⟩
  stop := fun F cs H s => ⟨pur_le _ _ (s.gr _ _ h), by rw [List.length_map]; exact Nat.le_refl _⟩ in
#guard_msgs (pass all) in open Nat
def iKeysD (we : DL.WE) : WI := fun ρ cs P Z => we ρ cs (fun d cs1 => match d with
  | .dic kvs => P (kvs.map fun p => kD p.1) cs1
  | .dct kvs => P (kvs.map fun p => D.tup (p.1.map kD)) cs1
  | _ => False) Z
theorem keys_eq {κ β : Type} {G : Hp} {xs : List (κ × V)} {ds : List (κ × D)} (f : κ → β) (h : RG K G xs ds) : (xs.map fun p => f p.1) = ds.map fun p => f p.1 := by
  induction h with
  | nil => rfl
  | cons _ _ ih => rw [List.map_cons, List.map_cons, ih] in
#guard_msgs (pass all) in open Nat
theorem di_keys {tg : Expr} (h : DE X W e we) : DI X W tg e (iKeysD we) := PI.imp (pi_keys h) fun σ H R hq => by
  obtain ⟨F, cs, ρ, P, Z, s, re, hw, pe, px⟩ := hq
  refine ⟨F, cs, ρ, _, Z, s, re, hw, fun H1 cs1 v d s1 r1 h1 => ?_, px⟩
  cases d <;> try exact h1.elim
  · cases r1 with
    | dic e1 q =>
      refine ⟨_, _, rfl, .inl ⟨_, pur_le _ _ e1, pe H1 cs1 _ _ s1 (yi_keysK e1) ?_⟩⟩
      rw [keys_eq kD q.rg]; exact h1
  · cases r1 with
    | dct e1 q =>
      refine ⟨_, _, rfl, .inr ⟨_, pur_le _ _ e1, pe H1 cs1 _ _ s1 (yi_keysT e1) ?_⟩⟩
      rw [keys_eq (fun k => D.tup (k.map kD)) q.rg]; exact h1 in
#guard_msgs (pass all) in open Nat
def dcW (g : WG) (wt : WT) (wk wv : DL.WE) : List D → DL.Env → Cs → List (Key × D) → (List (Key × D) → Cs → Prop) → Prop
  | [], _, cs, acc, P => P acc cs
  | d :: r, ρ, cs, acc, P => g d ρ fun ρ1 => wt ρ1 cs (fun k cs1 => (k = true → wk ρ1 cs1 (fun y cs2 => wv ρ1 cs2 (fun z cs3 => ∃ kk, kOf y = some kk ∧ dcW g wt wk wv r ρ cs3 (putD acc kk z) P) Z0) Z0) ∧ (k = false → dcW g wt wk wv r ρ cs1 acc P)) Z0
def wDcR (wi : WI) (g : WG) (wt : WT) (wk wv : DL.WE) (vs : List Nat) (R : DP → List (Key × D) → Cs → Prop) : DL.WE := fun ρ cs P Z => wi ρ cs (fun xs cs1 => xs.length ≤ 100000 ∧ dcW g wt wk wv xs (wipeD ρ vs) cs1 [] (R P)) Z
abbrev RMK : DP → List (Key × D) → Cs → Prop := fun P ds cs2 => ∀ p, p ∉ adr cs2 → P (.opq (.ref p)) ((p, .dic ds) :: cs2)
/-- a thing that was put aside comes to be one that may change -/
theorem dcK_ok {wi : WI} {g : TG} {gd : WG} {wt : WT} {wk wv : DL.WE} {vs : List Nat} (gk : GOk K g gd vs) {Q : VK} : lE K W (wDcR wi gd wt wk wv vs RMK) σ H Q → tDc (lI K W wi) g (lT K W0 wt) (lE K W0 wk) (lE K W0 wv) vs σ H Q := by
  rintro ⟨F, cs, ρ, P, Z, s, re, hw, pe, px⟩
  refine ⟨F, cs, ρ, _, Z, s, re, hw, fun H1 cs1 J xs s1 yi h1 => ?_, px⟩
  intro D hD
  obtain ⟨hlen, h1⟩ := h1
  have hFD : F D = none := s1.fr.back hD
  have reW : RepE K (pur F cs1 H1) (L2.wipe σ vs) (wipeD ρ vs) := (re.mono s1.gr).wipe vs
  refine ⟨fun i m H' => i ≤ xs.length ∧ m = xs.length - i ∧ ∃ cs' acc vacc, Sta K (upd F D (.dK vacc)) (pur F cs1 H1) cs' H' ∧ RG K (pur (upd F D (.dK vacc)) cs' H') vacc acc ∧ acc.length ≤ i ∧ dcW gd wt wk wv (xs.drop i) (wipeD ρ vs) cs' acc (RMK P),
    ⟨xs.length, Nat.zero_le _, rfl, cs1, [], [], s1.aside hD, .nil, Nat.le_refl _, h1⟩, ?_⟩
  rintro i m H2 ⟨hi, rfl, cs2, acc, vacc, s2, ra, hla, h2⟩
  cases e : xs.drop i with
  | nil =>
    have hl : xs.length ≤ i := by
      have z := congrArg List.length e
      rw [List.length_drop] at z
      have z' : xs.length - i = 0 := z
      omega
    have hie : i = xs.length := by omega
    rw [e] at h2
    refine .inl ⟨by rw [hie]; exact yi.stop _ cs2 H2 s2, ?_⟩
    obtain ⟨s3, hn⟩ := (s2.from_ s1.gr).backM (m := .dic acc) hFD ra.rk
    exact pe H2 _ _ _ s3 (.opq _) (h2 D hn)
  | cons d r =>
    obtain ⟨e1, e2⟩ := drop_cons e
    have hlt : i < xs.length := (List.getElem?_eq_some_iff.mp e1).1
    rw [e] at h2
    refine .inr ⟨yi.go i d e1 _ cs2 H2 s2, fun H' => ∃ cs' acc vacc, Sta K (upd F D (.dK vacc)) (pur F cs1 H1) cs' H' ∧ RG K (pur (upd F D (.dK vacc)) cs' H') vacc acc ∧ acc.length ≤ i + 1 ∧ dcW gd wt wk wv r (wipeD ρ vs) cs' acc (RMK P), ?_, ?_⟩
    · rintro H' ⟨cs', acc', vacc', s', ra', hl', h'⟩
      exact ⟨xs.length - (i + 1), by omega, by omega, rfl, cs', acc', vacc', s', ra', hl', by rw [e2]; exact h'⟩
    · intro x H3 hy
      obtain ⟨s3, r3⟩ := yi.yld i d e1 _ cs2 H2 x H3 s2 hy
      refine gk _ cs2 H3 _ (wipeD ρ vs) x d _ _ s3.self (reW.mono (s2.gr.trans s3.gr)) r3 wipe_wipe h2 fun σ4 ρ4 hw4 re4 h4 => ⟨hw4.trans rfl, ?_⟩
      refine ⟨_, cs2, ρ4, _, Z0, s3.self, re4, h4, fun H5 cs5 k s5 h5 => ?_, fun _ _ _ _ _ _ z => z⟩
      cases k with
      | false => exact iteF ⟨cs5, acc, vacc, s5.from_ (s2.gr.trans s3.gr), ra.mono (s3.gr.trans s5.gr), Nat.le_succ_of_le hla, h5.2 rfl⟩
      | true =>
        refine iteT ⟨_, cs5, ρ4, _, Z0, s5.self, re4.mono s5.gr, h5.1 rfl, fun H6 cs6 y dy s6 r6 h6 => ?_, fun _ _ _ _ _ _ z => z⟩
        refine ⟨_, cs6, ρ4, _, Z0, s6.self, re4.mono (s5.gr.trans s6.gr), h6, fun H7 cs7 z dz s7 r7 h7 => ?_, fun _ _ _ _ _ _ z => z⟩
        obtain ⟨kk, hk, h7⟩ := h7
        have s7' := (s7.from_ ((s2.gr.trans s3.gr).trans (s5.gr.trans s6.gr)))
        obtain ⟨s8, e8⟩ := s7'.turn (o' := .dK (putK vacc kk z)) hFD
        refine ⟨vacc, kk, kOf_rep hk r6, s7.fr D _ upd_same, ?_, cs7, putD acc kk dz, putK vacc kk z, s8, ?_, ?_, h7⟩
        · rw [ra.length]; exact Nat.lt_of_le_of_lt (Nat.le_trans hla hi) (Nat.lt_of_le_of_lt hlen (by decide))
        · rw [e8]
          exact (ra.mono (s3.gr.trans (s5.gr.trans (s6.gr.trans s7.gr)))).put kk r7
        · have := putD_len acc kk dz; omega in
#guard_msgs (pass all) in open Nat
variable {kx vx tg iter : Expr} {ifs : List Expr} {scope : Scope} {own : List (Str × Nat)} {wi : WI} {g : TG} {gd : WG} {wt : WT} {wk wv : DL.WE}
theorem d_dcK (hc : X.calm = true) (hN : X.N.Nodup) (hi : DI X W tg iter wi) (ok : BlkOk X.N X.env.scope scope own) (gk : GOk X.K g gd (own.map (·.2)))
    (hg : ∀ (s : Shared) (H : Hp) (C : Addr) (cl : List (Str × Addr)) (fp : List Addr), PG (X.blk s H scope (compEnvC scope cl C X.env) fp) tg g)
    (ht : ∀ (s : Shared) (H : Hp) (C : Addr) (cl : List (Str × Addr)) (fp : List Addr), PTs (X.blk s H scope (compEnvC scope cl C X.env) fp) ifs (lT X.K W0 wt))
    (hk : ∀ (s : Shared) (H : Hp) (C : Addr) (cl : List (Str × Addr)) (fp : List Addr), DE (X.blk s H scope (compEnvC scope cl C X.env) fp) W0 kx wk)
    (he : ∀ (s : Shared) (H : Hp) (C : Addr) (cl : List (Str × Addr)) (fp : List Addr), DE (X.blk s H scope (compEnvC scope cl C X.env) fp) W0 vx wv) (hs : ∀ x, foldedSetIterable iter X.env x = pure x := by intro _; rfl) :
    DE X W (.DictComp kx vx [⟨tg, iter, ifs, 0⟩] scope pos) (wDcR wi gd wt wk wv (own.map (·.2)) RMK) := PE.imp (pe_dc hc hN hi ok hg ht hk he hs) fun _ _ _ h => dcK_ok gk h in
#guard_msgs (pass all) in open Nat
end
section
variable {X : Cx} {W : WX} {K : PySem.W.Frag} {σ : L2.St} {H : Hp} {pos : Pos}
abbrev RMT : DP → List (List Key × D) → Cs → Prop := fun P ds cs2 => ∀ p, p ∉ adr cs2 → P (.opq (.ref p)) ((p, .dct ds) :: cs2)
def dtW (g : WG) (wt : WT) (w : WA) (wv : DL.WE) : List D → DL.Env → Cs → List (List Key × D) → (List (List Key × D) → Cs → Prop) → Prop
  | [], _, cs, acc, P => P acc cs
  | d :: r, ρ, cs, acc, P => g d ρ fun ρ1 => wt ρ1 cs (fun k cs1 => (k = true → w ρ1 cs1 (fun ys cs2 => wv ρ1 cs2 (fun z cs3 => ∃ ks, ksOf ys = some ks ∧ dtW g wt w wv r ρ cs3 (putD acc ks z) P) Z0) Z0) ∧ (k = false → dtW g wt w wv r ρ cs1 acc P)) Z0
def wDtR (wi : WI) (g : WG) (wt : WT) (w : WA) (wv : DL.WE) (vs : List Nat) : DL.WE := fun ρ cs P Z => wi ρ cs (fun xs cs1 => xs.length ≤ 100000 ∧ dtW g wt w wv xs (wipeD ρ vs) cs1 [] (RMT P)) Z
/-- {x: v for x in d if test}, d a dict of tuples that is data -/
def dkW (i : Nat) (wt : WT) (wv : DL.WE) : List (List Key) → DL.Env → Cs → List (List Key × D) → (List (List Key × D) → Cs → Prop) → Prop
  | [], _, cs, acc, P => P acc cs
  | k :: r, ρ, cs, acc, P => wt (ρ.set i (some (.tup (k.map kD)))) cs (fun b cs1 => (b = true → wv (ρ.set i (some (.tup (k.map kD)))) cs1 (fun z cs2 => dkW i wt wv r ρ cs2 (putD acc k z) P) Z0) ∧ (b = false → dkW i wt wv r ρ cs1 acc P)) Z0
def wDkR (i : Nat) (we : DL.WE) (wt : WT) (wv : DL.WE) (vs : List Nat) : DL.WE := fun ρ cs P Z => we ρ cs (fun d cs1 => match d with
  | .dct kvs => kvs.length ≤ 100000 ∧ dkW i wt wv (kvs.map (·.1)) (wipeD ρ vs) cs1 [] (RMT P)
  | _ => False) Z
variable {kx vx tg iter : Expr} {ifs : List Expr} {scope : Scope} {own : List (Str × Nat)} {wi : WI} {g : TG} {gd : WG} {wt : WT} {w : WA} {wv we : DL.WE} {es : List Expr} {kt : Nat} {kp px : Pos} {x : Str} {i0 : Nat}
end
section
variable {ρ : DL.Env} {cs : Cs} {P : DP} {Z : XZ} {we wk wv : DL.WE} {wt : WT} {w : WA} {g : WG}
theorem r_keysI {R : List D → Cs → Prop} (h : we ρ cs (fun d cs1 => match d with
  | .dic kvs => R (kvs.map fun p => kD p.1) cs1
  | .dct kvs => R (kvs.map fun p => D.tup (p.1.map kD)) cs1
  | _ => False) Z) : iKeysD we ρ cs R Z := h
theorem r_dcK {wi : WI} {vs : List Nat} (h : wi ρ cs (fun xs cs1 => xs.length ≤ 100000 ∧ dcW g wt wk wv xs (wipeD ρ vs) cs1 [] (fun ds cs2 => ∀ p, p ∉ adr cs2 → P (.opq (.ref p)) ((p, .dic ds) :: cs2))) Z) : wDcR wi g wt wk wv vs RMK ρ cs P Z := h
theorem r_dcT {wi : WI} {vs : List Nat} (h : wi ρ cs (fun xs cs1 => xs.length ≤ 100000 ∧ dtW g wt w wv xs (wipeD ρ vs) cs1 [] (fun ds cs2 => ∀ p, p ∉ adr cs2 → P (.opq (.ref p)) ((p, .dct ds) :: cs2))) Z) : wDtR wi g wt w wv vs ρ cs P Z := h
theorem r_dcKT {i : Nat} {vs : List Nat} (h : we ρ cs (fun d cs1 => match d with
  | .dct kvs => kvs.length ≤ 100000 ∧ dkW i wt wv (kvs.map (·.1)) (wipeD ρ vs) cs1 [] (fun ds cs2 => ∀ p, p ∉ adr cs2 → P (.opq (.ref p)) ((p, .dct ds) :: cs2))
  | _ => False) Z) : wDkR i we wt wv vs ρ cs P Z := h
theorem r_ks2 {i j : Int} {z : D} {N : List Key → D → Cs → Prop} (h : N [.inl i, .inl j] z cs) : ∃ ks, ksOf [.int i, .int j] = some ks ∧ N ks z cs := ⟨_, rfl, h⟩
theorem r_kkI {i : Int} {z : D} {N : Key → D → Cs → Prop} (h : N (.inl i) z cs) : ∃ kk, kOf (.int i) = some kk ∧ N kk z cs := ⟨_, rfl, h⟩
theorem r_kkS {x : Str} {z : D} {N : Key → D → Cs → Prop} (h : N (.inr x) z cs) : ∃ kk, kOf (.str x) = some kk ∧ N kk z cs := ⟨_, rfl, h⟩
end
end DL
namespace DL
open PySem PySem.Spec PyProof.Rows L2
/-- the rows: first and end -/
def spots (n : Nat) : List (Nat × Nat) := (List.range n).flatMap fun f => (List.range (n - f)).map fun j => (f, f + 1 + j)
def spK (p : Nat × Nat) : List Key := [.inl (p.1 : Int), .inl (p.2 : Int)]
theorem spK_inj {p q : Nat × Nat} (h : spK p = spK q) : p = q := by
  obtain ⟨a, b⟩ := p
  obtain ⟨c, d⟩ := q
  simp only [spK, List.cons.injEq, Sum.inl.injEq, and_true] at h
  obtain ⟨h1, h2⟩ := h
  have e1 : a = c := by omega
  have e2 : b = d := by omega
  rw [e1, e2] in
#guard_msgs (pass all) in open Nat
theorem mem_spots {n : Nat} {p : Nat × Nat} : p ∈ spots n ↔ p.1 < p.2 ∧ p.2 ≤ n := by
  unfold spots
  rw [List.mem_flatMap]
  constructor
  · rintro ⟨f, hf, hp⟩
    obtain ⟨j, hj, rfl⟩ := List.mem_map.mp hp
    have := List.mem_range.mp hf
    have := List.mem_range.mp hj
    simp only
    omega
  · rintro ⟨h1, h2⟩
    refine ⟨p.1, List.mem_range.mpr (by omega), List.mem_map.mpr ⟨p.2 - p.1 - 1, List.mem_range.mpr (by omega), ?_⟩⟩
    obtain ⟨a, b⟩ := p
    simp only at h1 h2 ⊢
    congr 1
    omega in
#guard_msgs (pass all) in open Nat
/-- the shape of the row from f to e -/
def shp (b : Bx) (dn : Bool) (ws : List Int) (f e : Nat) : Rat := rowShape b dn ws f (e - f)
def tabOf (sh : Nat → Nat → Rat) (l : List (Nat × Nat)) : List (List Key × D) := l.map fun p => (spK p, dR (sh p.1 p.2))
def shapesT (b : Bx) (dn : Bool) (ws : List Int) : List (List Key × D) := tabOf (shp b dn ws) (spots ws.length)
theorem lk_tab {sh : Nat → Nat → Rat} {l : List (Nat × Nat)} {f e : Nat} (h : (f, e) ∈ l) : lk (tabOf sh l) [.inl (f : Int), .inl (e : Int)] = some (dR (sh f e)) :=
  look_map spK (fun p => dR (sh p.1 p.2)) (f, e) l h fun y _ hy => spK_inj hy
theorem lk_shapes {b : Bx} {dn : Bool} {ws : List Int} {f e : Int} (h0 : 0 ≤ f) (h1 : f < e) (h2 : e ≤ ws.length) : lk (shapesT b dn ws) [.inl f, .inl e] = some (dR (shp b dn ws f.toNat e.toNat)) := by
  have := lk_tab (sh := shp b dn ws) (l := spots ws.length) (f := f.toNat) (e := e.toNat) (mem_spots.mpr ⟨by simp only; omega, by simp only; omega⟩)
  rw [show ((f.toNat : Nat) : Int) = f by omega, show ((e.toNat : Nat) : Int) = e by omega] at this
  exact this in
#guard_msgs (pass all) in open Nat
theorem r_getSh {b : Bx} {dn : Bool} {ws : List Int} {f e : Int} {cs : Cs} {P : DP} (h0 : 0 ≤ f) (h1 : f < e) (h2 : e ≤ ws.length) (h : P (dR (shp b dn ws f.toNat e.toNat)) cs) : oGetD (.dct (shapesT b dn ws)) (.tup [.int f, .int e]) cs P := r_getT2 (lk_shapes h0 h1 h2) h
end DL
namespace DL
open PySem PySem.Spec PyProof.Rows L2
/-- rows of sizes from f to n -/
inductive Way (n : Nat) : Nat → List Nat → Prop
  | nil : Way n n []
  | cons {f z : Nat} {zs : List Nat} : 1 ≤ z → f + z ≤ n → Way n (f + z) zs → Way n f (z :: zs)
theorem Way.le {n f : Nat} {zs : List Nat} (h : Way n f zs) : f ≤ n := by
  cases h with
  | nil => exact Nat.le_refl _
  | cons h1 h2 _ => omega in
#guard_msgs (pass all) in open Nat
theorem Way.sum {n f : Nat} {zs : List Nat} (h : Way n f zs) : f + zs.sum = n := by
  induction h with
  | nil => rfl
  | cons _ _ _ ih => rw [List.sum_cons]; omega in
#guard_msgs (pass all) in open Nat
theorem Way.pos {n f : Nat} {zs : List Nat} (h : Way n f zs) : ∀ z ∈ zs, 1 ≤ z := by
  induction h with
  | nil => intro z hz; cases hz
  | cons h1 _ _ ih =>
    intro z hz
    rcases List.mem_cons.mp hz with e | e
    · rw [e]; exact h1
    · exact ih z e in
#guard_msgs (pass all) in open Nat
theorem Way.of {n : Nat} : ∀ {f : Nat} {zs : List Nat}, (∀ z ∈ zs, 1 ≤ z) → f + zs.sum = n → Way n f zs
  | f, [], _, h => by
    have : f = n := by simpa using h
    rw [this]; exact .nil
  | f, z :: zs, hp, h => by
    rw [List.sum_cons] at h
    exact .cons (hp z (List.mem_cons_self ..)) (by omega) (Way.of (fun y hy => hp y (List.mem_cons_of_mem _ hy)) (by omega)) in
#guard_msgs (pass all) in open Nat
theorem Way.end_ {n : Nat} {zs : List Nat} (h : Way n n zs) : zs = [] := by
  cases h with
  | nil => rfl
  | cons h1 h2 _ => omega in
#guard_msgs (pass all) in open Nat
/-- the worst shape of rows -/
def wFrom (sh : Nat → Nat → Rat) : Nat → List Nat → Rat
  | _, [] => 1
  | f, z :: zs => mxR (sh f (f + z)) (wFrom sh (f + z) zs)
/-- x is the least worst shape behind f -/
structure IsLE (sh : Nat → Nat → Rat) (n f : Nat) (x : Rat) : Prop where
  is : ∃ zs, Way n f zs ∧ wFrom sh f zs = x
  le : ∀ zs, Way n f zs → x ≤ wFrom sh f zs
section
variable {sh : Nat → Nat → Rat} {n f : Nat} {x y : Rat}
theorem IsLE.uniq (h : IsLE sh n f x) (h' : IsLE sh n f y) : x = y := by
  obtain ⟨zs, w, e⟩ := h.is
  obtain ⟨zs', w', e'⟩ := h'.is
  exact Rat.le_antisymm (by rw [← e']; exact h.le zs' w') (by rw [← e]; exact h'.le zs w) in
#guard_msgs (pass all) in open Nat
theorem IsLE.end_ : IsLE sh n n 1 := ⟨⟨[], .nil, rfl⟩, fun zs h => by rw [h.end_]; exact Rat.le_refl⟩
/-- by the next row -/
theorem IsLE.step (L : Nat → Rat) (hL : ∀ e, f < e → e ≤ n → IsLE sh n e (L e)) (h1 : ∃ e, f < e ∧ e ≤ n ∧ x = mxR (sh f e) (L e)) (h2 : ∀ e, f < e → e ≤ n → x ≤ mxR (sh f e) (L e)) : IsLE sh n f x := by
  refine ⟨?_, fun zs w => ?_⟩
  · obtain ⟨e, e1, e2, rfl⟩ := h1
    obtain ⟨zs, w, ew⟩ := (hL e e1 e2).is
    have he : f + (e - f) = e := by omega
    refine ⟨(e - f) :: zs, .cons (by omega) (by omega) (by rw [he]; exact w), ?_⟩
    rw [wFrom, he, ew]
  · cases w with
    | nil =>
      obtain ⟨e, e1, e2, _⟩ := h1
      omega
    | @cons _ z zs z1 z2 w =>
      refine Rat.le_trans (h2 (f + z) (by omega) z2) ?_
      rw [wFrom]
      have := (hL (f + z) (by omega) z2).le zs w
      unfold mxR
      split
      · split
        · exact this
        · rename_i q; exact Rat.le_trans this (Rat.not_lt.mp q)
      · split
        · rename_i q; exact Rat.le_of_lt q
        · exact Rat.le_refl in
#guard_msgs (pass all) in open Nat
open Classical in
/-- the least worst shape behind f -/
noncomputable def LE (sh : Nat → Nat → Rat) (n f : Nat) : Rat := if h : ∃ x, IsLE sh n f x then h.choose else 1
theorem IsLE.eq (h : IsLE sh n f x) : LE sh n f = x := by
  unfold LE
  rw [dif_pos ⟨x, h⟩]
  exact (Exists.choose_spec (⟨x, h⟩ : ∃ x, IsLE sh n f x)).uniq h in
#guard_msgs (pass all) in open Nat
end
/-- the first of the ways on which all rows are good -/
inductive IsFW (good : Nat → Nat → Prop) (n : Nat) : Nat → List Nat → Prop
  | nil : IsFW good n n []
  | cons {f z : Nat} {zs : List Nat} : 1 ≤ z → f + z ≤ n → good f (f + z) → (∀ y, 1 ≤ y → y < z → ¬ good f (f + y)) → IsFW good n (f + z) zs → IsFW good n f (z :: zs)
section
variable {good : Nat → Nat → Prop} {n f : Nat} {zs ys : List Nat}
theorem IsFW.way (h : IsFW good n f zs) : Way n f zs := by
  induction h with
  | nil => exact .nil
  | cons h1 h2 _ _ _ ih => exact .cons h1 h2 ih in
#guard_msgs (pass all) in open Nat
theorem IsFW.uniq (h : IsFW good n f zs) : ∀ {ys}, IsFW good n f ys → zs = ys := by
  induction h with
  | nil => intro ys h'; exact h'.way.end_.symm
  | @cons f z zs h1 h2 g m r ih =>
    intro ys h'
    cases h' with
    | nil => omega
    | @cons _ y ys h1' h2' g' m' r' =>
      have e : z = y := by
        rcases Nat.lt_trichotomy z y with q | q | q
        · exact absurd g (m' z h1 q)
        · exact q
        · exact absurd g' (m y h1' q)
      subst e
      rw [ih r'] in
#guard_msgs (pass all) in open Nat
end
section
variable {sh : Nat → Nat → Rat} {n f : Nat} {B : Rat}
theorem IsFW.snoc {good : Nat → Nat → Prop} {g e : Nat} {ys : List Nat} (h : ∀ zs, IsFW good n f zs → IsFW good n g (ys ++ zs)) (h1 : f < e) (h2 : e ≤ n) (hg : good f e) (hn : ∀ y, f < y → y < e → ¬ good f y) : ∀ zs, IsFW good n e zs → IsFW good n g ((ys ++ [e - f]) ++ zs) := fun zs hz => by
  rw [List.append_assoc]
  have e1 : f + (e - f) = e := by omega
  exact h _ (.cons (by omega) (by omega) (by rw [e1]; exact hg) (fun y y1 y2 => hn (f + y) (by omega) (by omega)) (by rw [e1]; exact hz)) in
#guard_msgs (pass all) in open Nat
end
end DL
namespace DL
open PySem PySem.Spec PyProof.Rows L2
section
variable {X : Cx} {W : WX} {K : PySem.W.Frag} {σ : L2.St} {H : Hp} {a e : Expr} {wa we : DL.WE} {w : WA} {pos : Pos}
/-- n - 1, .., 0 -/
def dnD (n : Nat) : List D := (List.range n).map fun (i : Nat) => D.int ((n : Int) - 1 - (i : Int))
def iRev1 (wa : DL.WE) : WI := fun ρ cs P Z => wa ρ cs (fun d cs1 => match d with
  | .int j => (0 ≤ j ∧ j < 2 ^ 62) ∧ P (dnD j.toNat) cs1
  | _ => False) Z
/-- range(a, b, -1) -/
def dnR (i : Int) (n : Nat) : List D := (List.range n).map fun (k : Nat) => D.int (i - (k : Int))
def iRg3 (w : WA) : WI := fun ρ cs P Z => w ρ cs (fun ds cs1 => match ds with
  | [.int i, .int j, .int (-1)] => (-(2 ^ 62) ≤ i ∧ i < 2 ^ 62 ∧ -(2 ^ 62) ≤ j ∧ j < 2 ^ 62) ∧ P (dnR i (i - j).toNat) cs1
  | _ => False) Z
/-- list(range(n)) -/
def wLstR (wa : DL.WE) : DL.WE := fun ρ cs P Z => wa ρ cs (fun d cs1 => match d with
  | .int j => (0 ≤ j ∧ j ≤ 100000) ∧ P (.lst (rngD 0 j.toNat)) cs1
  | _ => False) Z
def wLstRM (wa : DL.WE) : DL.WE := fun ρ cs P Z => wa ρ cs (fun d cs1 => match d with
  | .int j => (0 ≤ j ∧ j ≤ 100000) ∧ ∀ p, p ∉ adr cs1 → P (.opq (.ref p)) ((p, .lst (rngD 0 j.toNat)) :: cs1)
  | _ => False) Z
end
section
variable {ρ : DL.Env} {cs : Cs} {P : DP} {Z : XZ} {wa wb wc : DL.WE}
theorem r_rev1 {R : List D → Cs → Prop} (h : wa ρ cs (fun d cs1 => match d with
  | .int j => (0 ≤ j ∧ j < 2 ^ 62) ∧ R (dnD j.toNat) cs1
  | _ => False) Z) : iRev1 wa ρ cs R Z := h
theorem r_rg3 {R : List D → Cs → Prop} {i j : Int} {w : WA} (h : w ρ cs (fun ds cs1 => match ds with
  | [.int i, .int j, .int (-1)] => (-(2 ^ 62) ≤ i ∧ i < 2 ^ 62 ∧ -(2 ^ 62) ≤ j ∧ j < 2 ^ 62) ∧ R (dnR i (i - j).toNat) cs1
  | _ => False) Z) : iRg3 w ρ cs R Z := h
theorem r_lstR (h : wa ρ cs (fun d cs1 => match d with
  | .int j => (0 ≤ j ∧ j ≤ 100000) ∧ P (.lst (rngD 0 j.toNat)) cs1
  | _ => False) Z) : wLstR wa ρ cs P Z := h
theorem r_lstRM (h : wa ρ cs (fun d cs1 => match d with
  | .int j => (0 ≤ j ∧ j ≤ 100000) ∧ ∀ p, p ∉ adr cs1 → P (.opq (.ref p)) ((p, .lst (rngD 0 j.toNat)) :: cs1)
  | _ => False) Z) : wLstRM wa ρ cs P Z := h
end
theorem tuple_mul1 (l : Addr) (items : Array Value) (n : Nat) (dd : Option Addr) (sl : Array (Option Value)) (u : Tok) :
    Meets (Builtin.«tuple.__mul__» ⟨[.ref l, .int 1 u], []⟩) (fun _ R s => s.heap.get? l = some { cls := .type "tuple", dict := dd, data := .seq items n, slots := sl } ∧ R (.ok (.ret (Value.ref l))) s) :=
  .of_wp fun prog w A R s h => by
    obtain ⟨hp, g, d, tk, os⟩ := s
    obtain ⟨hl, h⟩ := h
    have f1 := AutoSeq1.idx_int
    have c1 : (items.isEmpty || (1 : Int) == 1) = true := by cases items.isEmpty <;> rfl
    wp_walk using wpAny_loadPart' hl
    repeat (first
      | (refine wpAny_ite_true (decide_eq_true c1) ?_; wp_walk using wpAny_loadPart' hl)
      | (refine wpAny_ite_true (by rw [c1]; rfl) ?_; wp_walk using wpAny_loadPart' hl))
    exact ⟨_, rfl, h⟩ in
#guard_msgs (pass all) in open Nat
def rRepO (K : PySem.W.Frag) : R2 := fun x y H Q => ∃ l xs, x = .ref l ∧ y = .int 1 ∧ SqT K H l xs ∧ Q (.ref l) H
section
variable {X : Cx} {W : WX} {K : PySem.W.Frag} {a b : Expr} {wa wb : DL.WE} {pos : Pos}
theorem op_repO : OpR X (binaryOp .Mult) (rRepO X.K) := by
  intro pins s σ H x y v u Q I rx ry h
  obtain ⟨l, xs, rfl, rfl, hT, q⟩ := h
  cases rx
  obtain ⟨t, rfl⟩ := ry
  obtain ⟨its, r, ⟨⟨cls, dd, data, sl⟩, ho, hc, n, hd⟩, hs⟩ := I.tuple hT
  simp only at hc hd
  subst hc hd
  exact wpAny_binaryOp_repeat_ref (T := "tuple") (U := "int") (by decide) ⟨_, ho, rfl⟩ (fun s' => typeIs_int s' 1 t) noFill_tuple_mul F.fills_int_mul F.slot_int_rmul repeat_tuple F.slot_int_index.lookup
    (call_meets F.slot_int_rmul (typeIs_int s 1 t) F.entry_int_rmul (F.args_int_rmul_2 _ _) (int_rmul_tuple 1 t l its.toArray n dd sl)
      ⟨ho, rfl, ⟨_, ho, rfl⟩, call_meets F.slot_tuple_mul ⟨_, ho, rfl⟩ F.entry_tuple_mul (F.args_tuple_mul_2 _ _) (tuple_mul1 l its.toArray n dd sl t) ⟨ho, .ref l, H, I, rfl, q⟩⟩) in
#guard_msgs (pass all) in open Nat
def rRep (K : PySem.W.Frag) : R2 := fun x y H Q => rRepO K x y H Q ∨ rRepT K x y H Q
theorem op_rep : OpR X (binaryOp .Mult) (rRep X.K) := by
  intro pins s σ H x y v u Q I rx ry h
  rcases h with h | h
  · exact op_repO pins s σ H x y v u Q I rx ry h
  · exact op_repT pins s σ H x y v u Q I rx ry h in
#guard_msgs (pass all) in open Nat
theorem RepL.rep {G : Hp} {vs : List V} {ds : List D} (h : RepL K G vs ds) : ∀ k : Nat, RepL K G (List.replicate k vs).flatten (List.replicate k ds).flatten
  | 0 => .nil
  | k + 1 => by
    rw [List.replicate_succ, List.replicate_succ, List.flatten_cons, List.flatten_cons]
    exact h.append (RepL.rep h k)
end
end DL
namespace DL
open PySem PySem.Spec PyProof.Rows L2
section
variable {X : Cx} {W : WX} {K : PySem.W.Frag} {σ : L2.St} {H : Hp} {pos : Pos} {a b e : Expr} {es : List Expr} {wa wb we : DL.WE} {w : WA} {apos cpos : Pos}
def isDM (d : D) (cs : Cs) : Prop := match d with
  | .opq (.ref p) => (match look p cs with
    | some (.dic _) => True
    | some (.dct _) => True
    | _ => False)
  | _ => False
theorem isDM_ty {F : Hp} {cs : Cs} {x : V} {dx : D} (s : Sta K F (pur F cs H) cs H) (r : Rep K (pur F cs H) x dx) (h : isDM dx cs) : tyV K "dict" x H := by
  unfold isDM at h
  split at h
  · split at h
    · rename_i e
      obtain ⟨vs, e2, _⟩ := dic_at s e
      cases r
      exact .inr (.inr (.inl ⟨rfl, .inl ⟨_, e2⟩⟩))
    · rename_i e
      obtain ⟨vs, e2, _⟩ := dct_at s e
      cases r
      exact .inr (.inr (.inl ⟨rfl, .inr ⟨_, e2⟩⟩))
    · exact h.elim
  · exact h.elim in
#guard_msgs (pass all) in open Nat
def wMtD (o : DMt) (wo : DL.WE) (w : WA) : DL.WE := fun ρ cs P Z => wo ρ cs (fun x cs1 => isDM x cs1 ∧ w ρ cs1 (fun ds cs2 => o x ds cs2 P) Z) Z
def mergeD (kvs more : List (Key × D)) : List (Key × D) := more.foldl (fun acc kv => putD acc kv.1 kv.2) kvs
def rUpd : V → List V → Hp → VK → Prop := fun x xs H Q => ∃ p q kvs more, x = .ref p ∧ xs = [.ref q] ∧ H p = some (.dK kvs) ∧ Rd H q (.dK more) ∧ p ≠ q ∧ kvs.length + more.length ≤ sizeLine ∧ Q .non (upd H p (.dK (mergeK kvs more)))
theorem mt_upd : MtR X "dict.update" rUpd := by
  intro pins s σ H x xs v us Q I rx rs h
  obtain ⟨p, q, kvs, more, rfl, rfl, hp, hq, hne, hz, h⟩ := h
  obtain ⟨u, rfl, ru⟩ := vals1 rs
  cases rx
  cases ru
  obtain ⟨z1, hd, vs, rel, dd⟩ := dk_of I.hok hp
  obtain ⟨z2, hd2, vs2, rel2, dd2⟩ := dk_rd I.hok hq
  refine call_meetsIn PySem.F.slot_dict_update dd.typeIs PySem.F.entry_dict_update (PySem.F.args_dict_update_2 _ _) (meets_dict_update (mixKind X.prog X.w) p q hne hd2) ⟨vs, vs2, dd, dd2, by rw [← rel.length, ← rel2.length]; exact hz, fun h' dd' _ hs => ⟨.non, _, ?_, rfl, h⟩⟩
  have he : ∃ o, h'.get? p = some o := let ⟨o, _, _, ho, _⟩ := dd'; ⟨o, ho⟩
  exact d_write (t' := s.toks) I (by rw [hp]; exact True.intro) hs he (dk_new (Nat.le_trans (length_mergeK more kvs) hz) hd (rel2.merge rel) dd') in
#guard_msgs (pass all) in open Nat
theorem RG.merge {G : Hp} {more : List (Key × V)} {dm : List (Key × D)} (h : RG K G more dm) : ∀ {xs : List (Key × V)} {ds : List (Key × D)}, RG K G xs ds → RG K G (mergeK xs more) (mergeD ds dm) := by
  induction h with
  | nil => intro xs ds h; exact h
  | cons h _ ih => intro xs ds h0; exact ih (h0.put _ h) in
#guard_msgs (pass all) in open Nat
def oUpd : DMt := fun x ds cs P => ∃ p kvs more, x = .opq (.ref p) ∧ look p cs = some (.dic kvs) ∧ ds = [.dic more] ∧ kvs.length + more.length ≤ 100000 ∧ P .non (put p (.dic (mergeD kvs more)) cs)
theorem adq_upd : AdqM K "dict" rUpd oUpd := fun F cs H x xs dx ds P Q s rx rl ho pe => by
  obtain ⟨p, kvs, more, rfl, hl, rfl, hz, h⟩ := ho
  obtain ⟨vs, e, rv⟩ := dic_at s hl
  cases rx
  cases rl with
  | cons r1 r2 =>
  cases r2
  cases r1 with
  | @dic q o ms _ eq rm =>
  have hp : p ∈ adr cs := List.mem_map.mpr ⟨(p, _), look_mem hl, rfl⟩
  have s4 := s.put hl (m' := .dic (mergeD kvs more)) (o' := .dK (mergeK vs ms)) (rm.rg.merge rv).rk
  refine ⟨p, q, vs, ms, rfl, rfl, e, .inr ⟨o, pur_le _ _ eq⟩, fun z => ?_, ?_, pe _ _ _ _ s4 .non h⟩
  · rw [← z, pur_at_no hp] at eq; cases eq
  · rw [rv.length, rm.rg.length]; exact Nat.le_trans hz (by decide) in
#guard_msgs (pass all) in open Nat
theorem d_update (ho : DE X W a wa) (ha : DA X W [e] w) (hbase : attributeBase a "update" X.env (eval a X.env) = eval a X.env := by rfl)
    (hfew : ((backTo cpos (starEach [e] X.env)).all (fun x => !x.1) && (backToKw cpos (keywordEach [] X.env)).all (fun x => x.1.isSome)
      && decide ([e].length + ([] : List Keyword).length + (if ([] : List Keyword).isEmpty then 0 else 1) < 30)) = true := by rfl)
    (hline : (apos.endLine == cpos.line) = true := by rfl) (hs : starEach [e] X.env = (false, eval e X.env) :: starEach [] X.env := by rfl) (hplain : (backTo cpos (starEach [] X.env)).any (·.1) = false := by rfl) :
    DE X W (.Call (.Attribute a "update" apos) [e] [] cpos) (wMtD oUpd wa w) := PE.imp (pe_bm PySem.F.plainAttrs_dict PySem.F.slot_dict_update PySem.F.type_dict_update mt_upd ho ha hbase hfew hline hs hplain) fun σ H Q h => by
  obtain ⟨F, cs, ρ, P, Z, s, re, hw, pe, px⟩ := h
  refine ⟨F, cs, ρ, _, Z, s, re, hw, fun H1 cs1 x dx s1 r1 h1 => ⟨isDM_ty s1.self r1 h1.1, ?_⟩, px⟩
  refine ⟨F, cs1, ρ, _, Z, s1.self, re.mono s1.gr, h1.2, fun H2 cs2 vs ds s2 r2 l2 h2 => ?_, px.le s1.gr⟩
  exact adq_upd F cs2 H2 x vs dx ds P Q s2.self (r1.mono s2.gr) r2 h2 (pe.le (s1.gr.trans s2.gr)) in
#guard_msgs (pass all) in open Nat
/-- d.get(k, x) -/
def wGet2 (wo wk wz : DL.WE) : DL.WE := fun ρ cs P Z => wo ρ cs (fun x cs1 => (∃ dd, ddAt x cs1 = some dd) ∧ wk ρ cs1 (fun k cs2 => wz ρ cs2 (fun z cs3 => ∃ o, getV x k cs3 = some o ∧ P (o.getD z) cs3) Z) Z) Z
theorem dd_isD {F : Hp} {cs : Cs} {x : V} {dx : D} {dd : DD} (s : Sta K F (pur F cs H) cs H) (r : Rep K (pur F cs H) x dx) (h : ddAt dx cs = some dd) : ∃ p, x = .ref p ∧ IsD H p := by
  cases dd with
  | inl kvs =>
    obtain ⟨p, vs, rfl, h1, _⟩ := dd_k s r h
    exact ⟨p, rfl, .inl ⟨_, h1⟩⟩
  | inr kvs =>
    obtain ⟨p, vs, rfl, h1, _⟩ := dd_t s r h
    exact ⟨p, rfl, .inr ⟨_, h1⟩⟩ in
#guard_msgs (pass all) in open Nat
def tGet2X (K : PySem.W.Frag) (td ty tx : TE) : TE := fun σ H Q => td σ H fun x H1 => ∃ p, x = .ref p ∧ IsD H1 p ∧ ty σ H1 fun y H2 => tx σ H2 fun z H3 => ∃ o, LookX K H3 p y o ∧ Q (o.getD z) H3
theorem pe_get2X {f : Expr} {td ty tx : TE} (hu : X.A.units + 64 < cLine) (ho : PE X a td) (he : PE X e ty) (hf : PE X f tx) (m : M2 X a "get" apos e f cpos) : PE X (.Call (.Attribute a "get" apos) [e, f] [] cpos) (tGet2X X.K td ty tx) := by
  refine ⟨fun pins s σ H Q I h => ?_⟩
  refine wpAny_Call_method m.base m.few m.line PySem.F.plainAttrs_dict PySem.F.slot_dict_get PySem.F.type_dict_get (thn (ho.run pins s σ H _ I h) fun u s1 ⟨x, H1, I1, rx, p, ex, d, q1⟩ => ?_)
  subst ex
  obtain rfl : u = Value.ref p := rx
  obtain ⟨t1, t2, _⟩ := isD_at I1 d
  refine ⟨t1, t2, ?_⟩
  rw [m.trees]
  refine Calls.callWith_builtin rfl (Calls.evalArgs_plain (Calls.spliced_cons (thn (he.run pins s1 σ H1 _ I1 q1) fun iv s2 ⟨y, H2, I2, ry, q2⟩ => Calls.spliced_cons (thn (hf.run pins s2 σ H2 _ I2 q2) fun fv s3 ⟨z, H3, I3, rz, ov, g, q3⟩ => Calls.spliced_nil ?_))))
  exact x_get2 (by omega) I3 g ry rz fun w' s4 I4 rw' => ⟨_, H3, I4, rw', q3⟩ in
#guard_msgs (pass all) in open Nat
theorem d_get2D {f : Expr} {wk wz : DL.WE} (hu : X.A.units + 64 < cLine) (ho : DE X W a wa) (he : DE X W e wk) (hf : DE X W f wz) (m : M2 X a "get" apos e f cpos := by exact ⟨rfl, rfl, rfl, rfl⟩) : DE X W (.Call (.Attribute a "get" apos) [e, f] [] cpos) (wGet2 wa wk wz) :=
  PE.imp (pe_get2X hu ho he hf m) fun σ H Q h => by
    obtain ⟨F, cs, ρ, P, Z, s, re, hw, pe, px⟩ := h
    refine ⟨F, cs, ρ, _, Z, s, re, hw, fun H1 cs1 x dx s1 r1 h1 => ?_, px⟩
    obtain ⟨⟨dd, hdd⟩, h1⟩ := h1
    obtain ⟨p, rfl, hD⟩ := dd_isD s1.self r1 hdd
    refine ⟨p, rfl, hD, F, cs1, ρ, _, Z, s1.self, re.mono s1.gr, h1, fun H2 cs2 y dy s2 r2 h2 => ?_, px.le s1.gr⟩
    refine ⟨F, cs2, ρ, _, Z, s2.self, re.mono (s1.gr.trans s2.gr), h2, fun H3 cs3 z dz s3 r3 h3 => ?_, px.le (s1.gr.trans s2.gr)⟩
    obtain ⟨o, ho, h4⟩ := h3
    obtain ⟨p', r, e', g, rq⟩ := getV_ok s3.self (r1.mono (s2.gr.trans s3.gr)) (r2.mono s3.gr) ho
    cases e'
    exact ⟨r, g, pe H3 cs3 _ _ (s3.from_ (s1.gr.trans s2.gr)) (rq.getD r3) h4⟩ in
#guard_msgs (pass all) in open Nat
end
section
variable {ρ : DL.Env} {cs : Cs} {P : DP} {Z : XZ} {wo wk wz : DL.WE} {w : WA} {p : Addr} {kvs more : List (Key × D)}
theorem r_mtD {o : DMt} (h : wo ρ cs (fun x cs1 => isDM x cs1 ∧ w ρ cs1 (fun ds cs2 => o x ds cs2 P) Z) Z) : wMtD o wo w ρ cs P Z := h
theorem r_isDM (hl : look p cs = some (.dic kvs)) {R : Prop} (h : R) : isDM (.opq (.ref p)) cs ∧ R := ⟨by unfold isDM; simp only [hl], h⟩
theorem r_updH (hz : kvs.length + more.length ≤ 100000) (h : P .non ((p, .dic (mergeD kvs more)) :: cs)) : oUpd (.opq (.ref p)) [.dic more] ((p, .dic kvs) :: cs) P := ⟨p, kvs, more, rfl, by simp [look], rfl, hz, by rw [put_hd]; exact h⟩
theorem r_get2 (h : wo ρ cs (fun x cs1 => (∃ dd, ddAt x cs1 = some dd) ∧ wk ρ cs1 (fun k cs2 => wz ρ cs2 (fun z cs3 => ∃ o, getV x k cs3 = some o ∧ P (o.getD z) cs3) Z) Z) Z) : wGet2 wo wk wz ρ cs P Z := h
theorem r_ddK {R : Prop} (h : R) : (∃ dd, ddAt (.dic kvs) cs = some dd) ∧ R := ⟨⟨.inl kvs, rfl⟩, h⟩
theorem r_ddM (hl : look p cs = some (.dic kvs)) {R : Prop} (h : R) : (∃ dd, ddAt (.opq (.ref p)) cs = some dd) ∧ R := ⟨⟨.inl kvs, by simp [ddAt, hl]⟩, h⟩
theorem r_gvKI {i : Int} {R : Option D → Prop} (h : R (lk kvs (.inl i))) : ∃ o, getV (.dic kvs) (.int i) cs = some o ∧ R o := ⟨_, by simp [getV, ddAt, kOf], h⟩
theorem r_gvKS {x : Str} {R : Option D → Prop} (h : R (lk kvs (.inr x))) : ∃ o, getV (.dic kvs) (.str x) cs = some o ∧ R o := ⟨_, by simp [getV, ddAt, kOf], h⟩
theorem r_gvMI {i : Int} {R : Option D → Prop} (hl : look p cs = some (.dic kvs)) (h : R (lk kvs (.inl i))) : ∃ o, getV (.opq (.ref p)) (.int i) cs = some o ∧ R o := ⟨_, by simp [getV, ddAt, hl, kOf], h⟩
theorem r_gvMS {x : Str} {R : Option D → Prop} (hl : look p cs = some (.dic kvs)) (h : R (lk kvs (.inr x))) : ∃ o, getV (.opq (.ref p)) (.str x) cs = some o ∧ R o := ⟨_, by simp [getV, ddAt, hl, kOf], h⟩
end
end DL
namespace DL
open PySem PySem.Spec PyProof.Rows L2
/-- e is come to by rows of shapes below r -/
inductive Rch (sh : Nat → Nat → Rat) (n : Nat) (r : Rat) : Nat → Prop
  | zero : Rch sh n r 0
  | step {f e : Nat} : Rch sh n r f → f < e → e ≤ n → sh f e < r → Rch sh n r e
section
variable {sh : Nat → Nat → Rat} {n : Nat} {r : Rat}
theorem Rch.le {e : Nat} (h : Rch sh n r e) : e ≤ n := by
  cases h with
  | zero => exact Nat.zero_le _
  | step _ _ h _ => exact h in
#guard_msgs (pass all) in open Nat
end
theorem one_le_divInt {a b : Int} (h0 : 0 < b) (h1 : b ≤ a) : 1 ≤ Rat.divInt a b := by
  rw [Rat.divInt_eq_div]
  have hb : (0 : Rat) < (b : Rat) := Rat.intCast_lt_intCast.mpr h0
  refine Rat.not_lt.mp fun z => ?_
  have := Rat.mul_lt_mul_of_pos_right z hb
  rw [Rat.div_mul_cancel (Rat.ne_of_gt hb), Rat.one_mul] at this
  exact Rat.not_lt.mpr (Rat.intCast_le_intCast.mpr h1) this in
#guard_msgs (pass all) in open Nat
section
variable {cs : Cs} {P : DP} {s : Int} {ss : List Int} {x : Str} {xs : List Str}
theorem r_inLI (h : P (.bl (decide (s ∈ ss))) cs) : oIn (.int s) (.lst (ss.map D.int)) cs P := .inr ⟨s, ss, rfl, .inr rfl, h⟩
theorem r_inTI (h : P (.bl (decide (s ∈ ss))) cs) : oIn (.int s) (.tup (ss.map D.int)) cs P := .inr ⟨s, ss, rfl, .inl rfl, h⟩
theorem r_niLI (h : P (.bl (!decide (s ∈ ss))) cs) : oNotIn (.int s) (.lst (ss.map D.int)) cs P := .inr ⟨s, ss, rfl, .inr rfl, h⟩
theorem r_niTI (h : P (.bl (!decide (s ∈ ss))) cs) : oNotIn (.int s) (.tup (ss.map D.int)) cs P := .inr ⟨s, ss, rfl, .inl rfl, h⟩
theorem r_inLS (h : P (.bl (decide (x ∈ xs))) cs) : oIn (.str x) (.lst (xs.map D.str)) cs P := .inl ⟨x, xs, rfl, .inr rfl, h⟩
theorem r_niLS (h : P (.bl (!decide (x ∈ xs))) cs) : oNotIn (.str x) (.lst (xs.map D.str)) cs P := .inl ⟨x, xs, rfl, .inr rfl, h⟩
end
def r6 : Rat := ⟨1, 1000000, by decide, by decide⟩
end DL
namespace DL
open PySem PySem.Spec PyProof.Rows L2
section
variable {X : Cx} {W : WX} {K : PySem.W.Frag} {σ : L2.St} {H : Hp} {a b e : Expr} {wa wb we : DL.WE} {pos : Pos}
theorem any_eqv (d : D) (hd : plD 20 d = true) : ∀ xs : List D, plL 20 xs = true → ((pyL xs).any fun z => PyData.eqv z (pyD d)) = xs.any fun z => eqD z d
  | [], _ => by simp [pyL]
  | x :: xs, h => by
    simp only [plL, Bool.and_eq_true] at h
    simp only [pyL, List.any_cons]
    rw [any_eqv d hd xs h.2, eqD_eqv x d 20 20 h.1 hd]
/-- tuples of ints -/
def tupI (k : List Int) : D := .tup (k.map D.int)
def wLenSet (we : DL.WE) : DL.WE := fun ρ cs P Z => we ρ cs (fun d cs1 => ∃ ks : List (List Int), lstOf cs1 d = some (ks.map tupI) ∧ ks.length < 64 ∧ ∀ m : Nat, (ks.Nodup → m = ks.length) → (¬ ks.Nodup → m < ks.length) → P (.int (m : Int)) cs1) Z
theorem RepL.tups {G : Hp} : ∀ {vs : List V} {ks : List (List Int)}, RepL K G vs (ks.map tupI) → ∃ zs : List (Addr × List Int), vs = zs.map (fun z => V.ref z.1) ∧ zs.map (·.2) = ks ∧ ∀ z ∈ zs, SqT K G z.1 (z.2.map V.int)
  | vs, [], h => by
    cases h
    exact ⟨[], rfl, rfl, fun _ h => (nomatch h)⟩
  | vs, k :: ks, h => by
    rw [List.map_cons] at h
    cases h with
    | @cons v vs _ _ h r =>
    cases h with
    | @tup q xs _ e rl =>
    obtain ⟨zs, h1, h2, h3⟩ := RepL.tups r
    refine ⟨(q, k) :: zs, by rw [h1]; rfl, by rw [List.map_cons, h2], fun z hz => ?_⟩
    rcases List.mem_cons.mp hz with e' | e'
    · rw [e']; show SqT K G q (k.map V.int); rw [← RepL.intsL k rl]; exact e
    · exact h3 z e' in
#guard_msgs (pass all) in open Nat
theorem nodup_le {α : Type} [DecidableEq α] : ∀ {l m : List α}, l.Nodup → (∀ x ∈ l, x ∈ m) → l.length ≤ m.length
  | [], m, _, _ => Nat.zero_le _
  | x :: l, m, nd, h => by
    obtain ⟨n1, n2⟩ := List.nodup_cons.mp nd
    have hx := h x (List.mem_cons_self ..)
    have := nodup_le (m := m.erase x) n2 fun y hy => (List.mem_erase_of_ne (fun z => n1 (by rw [← z]; exact hy))).mpr (h y (List.mem_cons_of_mem _ hy))
    rw [List.length_erase_of_mem hx] at this
    have := List.length_pos_of_mem hx
    rw [List.length_cons]; omega in
#guard_msgs (pass all) in open Nat
end
section
variable {ρ : DL.Env} {cs : Cs} {P : DP} {Z : XZ} {we : DL.WE} {xs : List D} {d : D} {p : Addr}
theorem r_lenSet (h : we ρ cs (fun d cs1 => ∃ ks : List (List Int), lstOf cs1 d = some (ks.map tupI) ∧ ks.length < 64 ∧ ∀ m : Nat, (ks.Nodup → m = ks.length) → (¬ ks.Nodup → m < ks.length) → P (.int (m : Int)) cs1) Z) : wLenSet we ρ cs P Z := h
end
end DL
namespace DL
open PySem PySem.Spec PyProof.Rows L2
/-- rows from f to n, each let by R -/
inductive LWay (R : Nat → Nat → Prop) (n : Nat) : Nat → List Nat → Prop
  | nil : LWay R n n []
  | cons {f z : Nat} {zs : List Nat} : 1 ≤ z → f + z ≤ n → R f (f + z) → LWay R n (f + z) zs → LWay R n f (z :: zs)
/-- their cost -/
def wc (c : Nat → Nat → Int) : Nat → List Nat → Int
  | _, [] => 0
  | f, z :: zs => c f (f + z) + wc c (f + z) zs
/-- k is the least cost -/
structure IsC (R : Nat → Nat → Prop) (c : Nat → Nat → Int) (n f : Nat) (k : Int) : Prop where
  is : ∃ zs, LWay R n f zs ∧ wc c f zs = k
  le : ∀ zs, LWay R n f zs → k ≤ wc c f zs
section
variable {R : Nat → Nat → Prop} {c : Nat → Nat → Int} {n f : Nat} {k l : Int} {zs : List Nat}
theorem LWay.way (h : LWay R n f zs) : Way n f zs := by
  induction h with
  | nil => exact .nil
  | cons h1 h2 _ _ ih => exact .cons h1 h2 ih in
#guard_msgs (pass all) in open Nat
theorem LWay.end_ (h : LWay R n n zs) : zs = [] := h.way.end_
theorem IsC.uniq (h : IsC R c n f k) (h' : IsC R c n f l) : k = l := by
  obtain ⟨zs, w, e⟩ := h.is
  obtain ⟨zs', w', e'⟩ := h'.is
  have h1 := h.le zs' w'
  have h2 := h'.le zs w
  omega in
#guard_msgs (pass all) in open Nat
theorem IsC.end_ : IsC R c n n 0 := ⟨⟨[], .nil, rfl⟩, fun zs h => by rw [h.end_]; exact Int.le_refl _⟩
open Classical in
/-- the least cost behind f, if a way leads on -/
noncomputable def CB (R : Nat → Nat → Prop) (c : Nat → Nat → Int) (n f : Nat) : Option Int := if h : ∃ k, IsC R c n f k then some h.choose else none
/-- by the next row -/
theorem IsC.step (h1 : ∃ e l, f < e ∧ e ≤ n ∧ R f e ∧ IsC R c n e l ∧ k = c f e + l) (h2 : ∀ e l, f < e → e ≤ n → R f e → IsC R c n e l → k ≤ c f e + l) (h3 : ∀ e zs, f < e → LWay R n e zs → ∃ l, IsC R c n e l) : IsC R c n f k := by
  refine ⟨?_, fun zs w => ?_⟩
  · obtain ⟨e, l, e1, e2, e3, e4, rfl⟩ := h1
    obtain ⟨zs, w, ew⟩ := e4.is
    have he : f + (e - f) = e := by omega
    exact ⟨(e - f) :: zs, .cons (by omega) (by omega) (by rw [he]; exact e3) (by rw [he]; exact w), by rw [wc, he, ew]⟩
  · cases w with
    | nil =>
      obtain ⟨e, l, e1, e2, _⟩ := h1
      omega
    | @cons _ z zs z1 z2 z3 w =>
      obtain ⟨l, hl⟩ := h3 (f + z) zs (by omega) w
      have a1 := h2 (f + z) l (by omega) z2 z3 hl
      have a2 := hl.le zs w
      rw [wc]; omega in
#guard_msgs (pass all) in open Nat
end
structure KOk (ks : List (Int × Int)) (n : Nat) : Prop where
  in_ : ∀ p ∈ ks, 0 ≤ p.1 ∧ 1 ≤ p.2 ∧ p.1 + p.2 ≤ n
  nd : ks.Nodup
  len : ks.length < 64
/-- a row is let -/
def lets (sh : Nat → Nat → Rat) (r : Rat) (f e : Nat) : Prop := ¬ r < sh f e
/-- what a row costs -/
def cst (ks : List (Int × Int)) (f e : Nat) : Int := if ((f : Int), (e : Int) - (f : Int)) ∈ ks then 0 else 1
theorem KOk.sub {ks ls : List (Int × Int)} {n : Nat} (h : KOk ks n) (p : ls.Sublist ks) : KOk ls n := ⟨fun x hx => h.in_ x (p.subset hx), p.nodup h.nd, Nat.lt_of_le_of_lt p.length_le h.len⟩
section
variable {sh : Nat → Nat → Rat} {n : Nat} {r r' : Rat} {ks ls : List (Int × Int)} {f : Nat} {zs : List Nat}
theorem LWay.imp {R R' : Nat → Nat → Prop} (h : LWay R n f zs) (hi : ∀ a e, R a e → R' a e) : LWay R' n f zs := by
  induction h with
  | nil => exact .nil
  | cons h1 h2 h3 _ ih => exact .cons h1 h2 (hi _ _ h3) ih in
#guard_msgs (pass all) in open Nat
theorem Way.len {ys : List Nat} (h : Way n f ys) : f + ys.length ≤ n := by
  induction h with
  | nil => exact Nat.le_refl _
  | cons h1 h2 _ ih => rw [List.length_cons]; omega in
#guard_msgs (pass all) in open Nat
end
def sGoneA (u : WS) : WS := fun f ρ cs => u { f with nx := fun ρ' cs' => ∃ p m, look p cs' = some m ∧ f.nx ρ' (del p cs') } ρ cs
theorem ds_goneA {X : Cx} {W : WX} {st : Stmt} {u : WS} (h : DS X W st u) : DS X W st (sGoneA u) := PS.imp h fun E σ H hq => by
  obtain ⟨F, cs, ρ, f, s, re, hw, pe⟩ := hq
  refine ⟨F, cs, ρ, _, s, re, hw, ⟨fun H1 cs1 σ1 ρ1 s1 re1 h1 => ?_, pe.bk, pe.ct, pe.rt, pe.ex⟩⟩
  obtain ⟨p, m, hl, h2⟩ := h1
  obtain ⟨s2, g2, _⟩ := s1.frz hl
  exact pe.nx H1 _ σ1 ρ1 s2 (re1.mono g2) h2
section
variable {ρ : DL.Env} {cs : Cs} {u : WS} {nx bk ct : DL.Env → Cs → Prop} {rt : D → Cs → Prop} {ex : Exn → DL.Env → Cs → Prop}
theorem q_goneA (h : u ⟨fun ρ' cs' => ∃ p m, look p cs' = some m ∧ nx ρ' (del p cs'), rt, ex, bk, ct⟩ ρ cs) : sGoneA u ⟨nx, rt, ex, bk, ct⟩ ρ cs := h
theorem r_goneEx {p : Addr} {m : MO} (h : nx ρ cs) : ∃ q m', look q ((p, m) :: cs) = some m' ∧ nx ρ (del q ((p, m) :: cs)) := ⟨p, m, look_hd, by rw [del_hd]; exact h⟩
end
section
variable {R : Nat → Nat → Prop} {c : Nat → Nat → Int} {f e g : Nat} {k : Int} {zs : List Nat}
theorem LWay.snoc (h : LWay R f g zs) (h1 : f < e) (hr : R f e) : LWay R e g (zs ++ [e - f]) ∧ wc c g (zs ++ [e - f]) = wc c g zs + c f e := by
  induction h with
  | nil =>
    have e1 : f + (e - f) = e := by omega
    refine ⟨.cons (by omega) (by omega) (by rw [e1]; exact hr) (by rw [e1]; exact .nil), ?_⟩
    rw [List.nil_append, wc, wc, wc, e1]; omega
  | @cons g z zs z1 z2 z3 w ih =>
    obtain ⟨i1, i2⟩ := ih
    refine ⟨.cons z1 (by omega) z3 i1, ?_⟩
    rw [List.cons_append, wc, wc, i2]; omega in
#guard_msgs (pass all) in open Nat
end
def optD : Option Int → D
  | none => .non
  | some k => .int k
/-- the numbers -/
noncomputable def numL (sh : Nat → Nat → Rat) (r : Rat) (ks : List (Int × Int)) (m : Nat) : List D := (List.range m).map fun e => optD (CB (lets sh r) (cst ks) e 0)
theorem numL_len (sh : Nat → Nat → Rat) (r : Rat) (ks : List (Int × Int)) (m : Nat) : (numL sh r ks m).length = m := by unfold numL; rw [List.length_map, List.length_range] in
#guard_msgs (pass all) in open Nat
end DL
namespace DL
open PySem PySem.Spec PyProof.Rows L2
section
variable {X : Cx} {W : WX} {K : PySem.W.Frag} {e : Expr} {td : TE} {we : DL.WE} {apos cpos : Pos}
theorem RG.getV {κ : Type} {G : Hp} {xs : List (κ × V)} {ds : List (κ × D)} (h : RG K G xs ds) : ∀ {i : Nat} {k : κ} {v : V}, xs[i]? = some (k, v) → ∃ d, ds[i]? = some (k, d) ∧ Rep K G v d := by
  induction h with
  | nil => intro i k v e; simp at e
  | cons r _ ih =>
    intro i k v e
    cases i with
    | zero => cases e; exact ⟨_, rfl, r⟩
    | succ j => exact ih e in
#guard_msgs (pass all) in open Nat
theorem RG.len {κ : Type} {G : Hp} {xs : List (κ × V)} {ds : List (κ × D)} (h : RG K G xs ds) : xs.length = ds.length := by
  induction h with
  | nil => rfl
  | cons _ _ ih => rw [List.length_cons, List.length_cons, ih] in
#guard_msgs (pass all) in open Nat
theorem yi_itemsK {G : Hp} {a : Addr} {o : Obj} {xs : List (Key × V)} {ds : List (Key × D)} (h : G a = some (.frz o (.dK xs))) (q : RG K G xs ds) : YI K (Iti a o xs) G (ds.map fun p => D.tup [kD p.1, p.2]) where
  go := fun i d e F cs H s => by
    have z := (List.getElem?_eq_some_iff.mp e).1
    rw [List.length_map, ← q.len] at z
    exact ⟨pur_le _ _ (s.gr _ _ h), z⟩
  yld := fun i d e F cs H x H' s hy => by
    obtain ⟨T, k, v, e1, rfl, hT, rfl⟩ := hy
    obtain ⟨dv, e3, rv⟩ := q.getV e1
    rw [List.getElem?_map, e3] at e
    cases e
    obtain ⟨s2, e5⟩ := s.new (o := .tup [_, _]) hT
    exact ⟨s2, .tup (SqT.of e5) (.cons (kD_rep k) (.cons (rv.mono (s.gr.trans s2.gr)) .nil))⟩
  stop := fun F cs H s => ⟨pur_le _ _ (s.gr _ _ h), by rw [List.length_map, q.len]; exact Nat.le_refl _⟩ in
#guard_msgs (pass all) in open Nat
def iItT (we : DL.WE) : WI := fun ρ cs P Z => we ρ cs (fun d cs1 => match d with
  | .dct kvs => P (kvs.map fun p => D.tup [D.tup (p.1.map kD), p.2]) cs1
  | _ => False) Z
def iItK (we : DL.WE) : WI := fun ρ cs P Z => we ρ cs (fun d cs1 => match d with
  | .dic kvs => P (kvs.map fun p => D.tup [kD p.1, p.2]) cs1
  | _ => False) Z
theorem di_itemsK {elts : List Expr} {kk : Nat} {tpos : Pos} (h : DE X W e we) (hbase : attributeBase e "items" X.env (eval e X.env) = eval e X.env := by rfl) (hline : (apos.endLine == cpos.line) = true := by rfl) :
    DI X W (.Tuple elts kk tpos) (.Call (.Attribute e "items" apos) [] [] cpos) (iItK we) := PI.imp (pi_items h hbase hline) fun σ H R hq => by
  obtain ⟨F, cs, ρ, P, Z, s, re, hw, pe, px⟩ := hq
  refine ⟨F, cs, ρ, _, Z, s, re, hw, fun H1 cs1 v d s1 r1 h1 => ?_, px⟩
  cases d <;> try exact h1.elim
  cases r1 with
  | dic e1 q => exact ⟨_, _, _, rfl, pur_le _ _ e1, pe H1 cs1 _ _ s1 (yi_itemsK e1 q.rg) h1⟩ in
#guard_msgs (pass all) in open Nat
theorem r_itT {ρ : DL.Env} {cs : Cs} {R : List D → Cs → Prop} {Z : XZ} (h : we ρ cs (fun d cs1 => match d with
  | .dct kvs => R (kvs.map fun p => D.tup [D.tup (p.1.map kD), p.2]) cs1
  | _ => False) Z) : iItT we ρ cs R Z := h
theorem r_itK {ρ : DL.Env} {cs : Cs} {R : List D → Cs → Prop} {Z : XZ} (h : we ρ cs (fun d cs1 => match d with
  | .dic kvs => R (kvs.map fun p => D.tup [kD p.1, p.2]) cs1
  | _ => False) Z) : iItK we ρ cs R Z := h
end
section
variable {X : Cx} {W : WX} {K : PySem.W.Frag} {a b : Expr} {rest : List Expr} {pos : Pos} {wa wb : DL.WE}
def truD : D → Option Bool
  | .non => some false
  | .bl k => some k
  | .int i => some (i != 0)
  | .str x => if x.length ≤ 1000 then some ((x.length : Int) != 0) else none
  | .lst xs => some (!xs.isEmpty)
  | .tup xs => some (!xs.isEmpty)
  | _ => none
def wOrT (wa wb : DL.WE) : DL.WE := fun ρ cs P Z => wa ρ cs (fun x cs1 => ∃ k, truD x = some k ∧ (k = true → P x cs1) ∧ (k = false → wb ρ cs1 P Z)) Z
theorem r_orT {ρ : DL.Env} {cs : Cs} {P : DP} {Z : XZ} (h : wa ρ cs (fun x cs1 => ∃ k, truD x = some k ∧ (k = true → P x cs1) ∧ (k = false → wb ρ cs1 P Z)) Z) : wOrT wa wb ρ cs P Z := h
end
def sFrzA (i : Nat) (u : WS) : WS := fun f ρ cs => u { f with nx := fun ρ' cs' => ∃ p xs, ρ'[i]? = some (some (.opq (.ref p))) ∧ look p cs' = some (.lst xs) ∧ f.nx (ρ'.set i (some (.lst xs))) (del p cs') } ρ cs
theorem set_same {α : Type} : ∀ {l : List α} {i : Nat} {x : α}, l[i]? = some x → l.set i x = l
  | [], _, _, e => by cases e
  | _ :: _, 0, _, e => by cases e; rfl
  | a :: l, i + 1, x, e => by rw [List.set_cons_succ, set_same (l := l) (i := i) e]
theorem ds_frzA {X : Cx} {W : WX} {st : Stmt} {u : WS} (i : Nat) (h : DS X W st u) : DS X W st (sFrzA i u) := PS.imp h fun E σ H hq => by
  obtain ⟨F, cs, ρ, f, s, re, hw, pe⟩ := hq
  refine ⟨F, cs, ρ, _, s, re, hw, ⟨fun H1 cs1 σ1 ρ1 s1 re1 h1 => ?_, pe.bk, pe.ct, pe.rt, pe.ex⟩⟩
  obtain ⟨p, xs, hi, hl, h2⟩ := h1
  obtain ⟨v, hv, rv⟩ := re1.get hi
  cases rv
  obtain ⟨s2, g2, o, ho, m⟩ := s1.frz hl
  cases o <;> try exact m.elim
  have re2 := (re1.mono g2).set (Rep.lst (SqL.of ho) m) i
  rw [set_same hv] at re2
  exact pe.nx H1 _ σ1 _ s2 re2 h2 in
#guard_msgs (pass all) in open Nat
theorem q_frzA {i : Nat} {ρ : DL.Env} {cs : Cs} {u : WS} {nx bk ct : DL.Env → Cs → Prop} {rt : D → Cs → Prop} {ex : Exn → DL.Env → Cs → Prop} (h : u ⟨fun ρ' cs' => ∃ p xs, ρ'[i]? = some (some (.opq (.ref p))) ∧ look p cs' = some (.lst xs) ∧ nx (ρ'.set i (some (.lst xs))) (del p cs'), rt, ex, bk, ct⟩ ρ cs) : sFrzA i u ⟨nx, rt, ex, bk, ct⟩ ρ cs := h
end DL
namespace DL
open PySem PySem.Spec PyProof.Rows L2 PySem.Calls PySem.W
section
variable {X : Cx}
inductive Ws (R : V → List Int → Prop) : List V → List (List Int) → Prop
  | nil : Ws R [] []
  | cons {v : V} {z : List Int} {vs : List V} {zs : List (List Int)} : R v z → Ws R vs zs → Ws R (v :: vs) (z :: zs)
theorem Ws.back {R : V → List Int → Prop} : ∀ {zs : List (List Int)} {us : List Value}, PySem.W.EachIs (fun u z => ∃ w, R w z ∧ L2.RelV w u) us zs → ∃ ws, Ws R ws zs ∧ Vals ws us
  | _, _, .nil => ⟨[], .nil, .nil⟩
  | _, _, .cons ⟨w, h, r⟩ hs => by
    obtain ⟨ws, h1, h2⟩ := Ws.back hs
    exact ⟨w :: ws, .cons h h1, .cons r h2⟩
theorem Ws.len {R : V → List Int → Prop} : ∀ {ws : List V} {zs : List (List Int)}, Ws R ws zs → ws.length = zs.length
  | _, _, .nil => rfl
  | _, _, .cons _ h => congrArg Nat.succ h.len
end
theorem r_neNilD {xs : List D} {cs : Cs} {P : DP} (hp : plD 20 (.lst xs) = true) (h : P (.bl (!xs.isEmpty)) cs) : oNe (.lst xs) (.lst []) cs P := ⟨hp, rfl, by
  have e : eqD (.lst xs) (.lst []) = xs.isEmpty := by
    cases xs <;> simp [eqD, eqL]
  rw [e]; exact h⟩ in
#guard_msgs (pass all) in open Nat
end DL
namespace DL
open PySem PySem.Spec PyProof.Rows L2
/-- the chief behind i of them -/
def ChZ (w : List Int → Rat) (L : List (List Int)) (i j : Nat) (z : List Int) : Prop := j < i ∧ L[j]? = some z ∧ (∀ k y, k < i → L[k]? = some y → w z ≤ w y) ∧ ∀ k y, k < j → L[k]? = some y → w z < w y
theorem chZ_first {w : List Int → Rat} {L : List (List Int)} {i : Nat} {z : List Int} (h : L[i]? = some z) (hn : ∀ k y, k < i → L[k]? = some y → w z < w y) : ChZ w L (i + 1) i z :=
  ⟨by omega, h, fun k y hk hy => by
    by_cases e : k = i
    · rw [e, h] at hy; cases hy; exact Rat.le_refl
    · exact Rat.le_of_lt (hn k y (by omega) hy), hn⟩
theorem ChZ.keep {w : List Int → Rat} {L : List (List Int)} {i j : Nat} {z y : List Int} (h : ChZ w L i j z) (hy : L[i]? = some y) (hl : ¬ w y < w z) : ChZ w L (i + 1) j z := by
  obtain ⟨a1, a2, a3, a4⟩ := h
  refine ⟨by omega, a2, fun k x hk hx => ?_, a4⟩
  by_cases e : k = i
  · rw [e, hy] at hx; cases hx; exact Rat.not_lt.mp hl
  · exact a3 k x (by omega) hx in
#guard_msgs (pass all) in open Nat
theorem ChZ.new {w : List Int → Rat} {L : List (List Int)} {i j : Nat} {z y : List Int} (h : ChZ w L i j z) (hy : L[i]? = some y) (hl : w y < w z) : ChZ w L (i + 1) i y := by
  obtain ⟨a1, a2, a3, a4⟩ := h
  exact chZ_first hy fun k x hk hx => Std.lt_of_lt_of_le hl (a3 k x hk hx) in
#guard_msgs (pass all) in open Nat
/-- the chief among those that are let, behind i of them -/
def ChP (ok : List Int → Prop) (c : List Int → Int) (L : List (List Int)) (i j : Nat) (z : List Int) : Prop := j < i ∧ L[j]? = some z ∧ ok z ∧ (∀ k y, k < i → L[k]? = some y → ok y → c z ≤ c y) ∧ ∀ k y, k < j → L[k]? = some y → ok y → c z < c y
section
variable {ok : List Int → Prop} {c : List Int → Int} {L : List (List Int)} {i j : Nat} {z y : List Int}
theorem chP_first (h : L[i]? = some z) (hz : ok z) (hn : ∀ k y, k < i → L[k]? = some y → ok y → c z < c y) : ChP ok c L (i + 1) i z :=
  ⟨by omega, h, hz, fun k y hk hy ho => by
    by_cases e : k = i
    · rw [e, h] at hy; cases hy; exact Int.le_refl _
    · exact Int.le_of_lt (hn k y (by omega) hy ho), hn⟩
theorem ChP.keep (h : ChP ok c L i j z) (hy : L[i]? = some y) (hl : ok y → ¬ c y < c z) : ChP ok c L (i + 1) j z := by
  obtain ⟨a1, a2, a3, a4, a5⟩ := h
  refine ⟨by omega, a2, a3, fun k x hk hx ho => ?_, a5⟩
  by_cases e : k = i
  · rw [e, hy] at hx; cases hx; have := hl ho; omega
  · exact a4 k x (by omega) hx ho in
#guard_msgs (pass all) in open Nat
theorem ChP.new (h : ChP ok c L i j z) (hy : L[i]? = some y) (ho : ok y) (hl : c y < c z) : ChP ok c L (i + 1) i y := by
  obtain ⟨a1, a2, a3, a4, a5⟩ := h
  exact chP_first hy ho fun k x hk hx ho => by have := a4 k x hk hx ho; omega in
#guard_msgs (pass all) in open Nat
end
end DL
namespace DL
open PySem PySem.Spec PyProof.Rows L2
theorem XB.facts : ∀ b : XB, ExcBaseFacts b.nm b.new b.ini b.tail
  | .v => PySem.F.excBase_ValueError
  | .l => PySem.F.excBase_LookupError
  | .i => PySem.F.excBase_IndexError
theorem XB.pass (self : Value) : ∀ b : XB, refuseLoop self "__setattr__" b.tail = pure ()
  | .v => PySem.F.store_ValueError.passes self
  | .l => PySem.F.store_LookupError.passes self
  | .i => PySem.F.store_IndexError.passes self
theorem XB.obj : ∀ b : XB, b.tail.contains (.type "object") = true
  | .v => by decide +kernel
  | .l => by decide +kernel
  | .i => by decide +kernel
theorem refsX_or {b : XB} {l : List Value} (h : refsX b l = true) : (∃ c r, l = .ref c :: r ∧ refsX b r = true) ∨ l = b.tail := by
  cases l with
  | nil => exact .inr (beq_iff_eq.mp h)
  | cons a r => cases a <;> first | exact .inl ⟨_, _, rfl, h⟩ | exact .inr (beq_iff_eq.mp h) in
#guard_msgs (pass all) in open Nat
theorem refsX_pass {b : XB} (self : Value) : ∀ {l : List Value}, refsX b l = true → refuseLoop self "__setattr__" l = pure ()
  | l, h => by
    induction l with
    | nil => rcases refsX_or h with ⟨_, _, e, _⟩ | e
             · cases e
             · rw [e]; exact b.pass self
    | cons a r ih =>
      rcases refsX_or h with ⟨c, r', e, h'⟩ | e
      · cases e
        rw [refuseLoop_ref]
        exact ih h'
      · rw [e]; exact b.pass self in
#guard_msgs (pass all) in open Nat
theorem refsX_has {b : XB} (Y : String) : ∀ {l : List Value}, refsX b l = true → l.contains (.type Y) = b.tail.contains (.type Y)
  | l, h => by
    induction l with
    | nil => rcases refsX_or h with ⟨_, _, e, _⟩ | e
             · cases e
             · rw [e]
    | cons a r ih =>
      rcases refsX_or h with ⟨c, r', e, h'⟩ | e
      · cases e
        rw [List.contains_cons, ih h']; rfl
      · rw [e]
theorem refsX_some {b : XB} {l : List Value} (h : refsX b l = true) : l.isEmpty = false := by
  have z := refsX_has "object" h
  rw [b.obj] at z
  cases l with
  | nil => cases z
  | cons _ _ => rfl in
#guard_msgs (pass all) in open Nat
/-- what the written part says of an own exception class -/
structure OxC (K : PySem.W.Frag) (b : XB) (C : Addr) : Prop where
  cls : ∃ nm q N bs bm sn sub ab col dd k0 k1 k2 k3 k5, K.lookup C = some (excClassObj nm q C N bs bm true sn sub ab col dd k0 k1 k2 k3 k5 b.new) ∧ refsX b bm = true
  sa : PySem.W.findIn K (.ref C) "__setattr__" = some (some (.builtin "object.__setattr__"))
  exC : PySem.W.subIn K (.ref C) (.type "BaseException") = some true
  tyC : PySem.W.typeIn K (.ref C) = some (.type "type")
  kC : PySem.W.keepIn K (.ref C) = true
section
open Builtin Builtin.ObjectAttr PySem.W PySem.Calls PySem.HandSPX PySem.OEX
variable {prog : Program} {w : World} {A : Around} {R : Result → Shared → Prop} {h0 : Heap} {gs : Array GenState} {dr : Drawn} {tk0 : Nat} {os : OsState} {K : PySem.W.Frag} {b : XB} {fn : Str} {tk : Tok} {v : Value} {x C : Addr} {fv : Array Value} {cd : ClassData}
/-- object.__setattr__ on it, the first field -/
theorem ox_first (X : K.In h0) (hx : h0.get? x = some { cls := .ref C, data := .fields fv }) (hcd : PySem.W.clsIn K C = some cd) (hm : refsX b cd.mro = true) (hh : cd.hasDict = true) (ha : PySem.W.findIn K (.ref C) fn = some none)
    (hq : ∀ h' tk' dx, (∀ c o, c ≠ x → h0.get? c = some o → h'.get? c = some o) → h0.objs.size ≤ dx → dx ≠ x → h'.get? x = some { cls := .ref C, dict := some dx, data := .fields fv } →
      h'.Ns1 dx (fun y => if y = fn then some v else none) → R (.ok (.ret .none)) ⟨h', gs, dr, tk', os⟩) :
    codeAny (model prog w) A (.call (.builtin "object.__setattr__") ⟨[.ref x, .str fn tk, v], []⟩) R ⟨h0, gs, dr, tk0, os⟩ := by
  have Ix : PySem.W.InstAt h0 x { cls := .ref C, data := .fields fv } C none := ⟨hx, rfl, rfl, trivial⟩
  have SFo := F.store_object
  have he := refsX_some hm
  have hob : cd.mro.contains (.type "object") = true := (refsX_has "object" hm).trans b.obj
  have nx : x ≠ h0.objs.size := Nat.ne_of_lt (Heap.lt_size hx)
  have isO : PySem.W.Looks (model prog w) h0 (isInstance (.ref x) (.type "object")) true := Ix.type.andThen (PySem.W.looks_mroIn X (by unfold PySem.W.mroIn; rw [hcd, Option.bind_some, if_neg (by rw [he]; decide), hob]))
  refine codeAny_call_builtin SFo.slot.plain SFo.entry (@PySem.W.check_slot (model prog w) _ _ ⟨h0, gs, dr, tk0, os⟩ "object.__setattr__" "object" "__setattr__" (.ref x) [.str fn tk, v] [] _ SFo.kind SFo.split isO (SFo.args (.ref x) (.str fn tk) v) ?_)
  have hmr : PySem.W.Looks (model prog w) h0 (mroOf (.ref C)) cd.mro := (PySem.W.looks_clsIn X hcd).andThen .now
  have tkr : PySem.W.Looks (model prog w) h0 (storeTaker? none) none := .now
  have hcl : PySem.W.Looks (model prog w) h0 (classData C) cd := PySem.W.looks_clsIn X hcd
  rw [PySem.W.osa_eq, refuse_eq]
  refine wpAny_bind (wpAny_bind (Ix.type.at (wpAny_bind (hmr.at ?_))))
  rw [refsX_pass _ hm]
  refine wpAny_pure (wpAny_bind (Ix.type.at (wpAny_bind ((PySem.W.looks_findIn X ha).at (wpAny_bind (tkr.at ?_))))))
  show wpAny _ _ (storeInOwnDict (.ref x) (.ref C) (.str fn tk) fn v false) _ _ _
  obtain ⟨nm, bs, mro, ns, qn, hd, sn, sb, ab, col, del⟩ := cd
  dsimp only at hh
  subst hh
  unfold storeInOwnDict ownDictForStores
  repeat (first | with_reducible refine store_in_new ?_ ?_ | with_reducible refine wpAny_loadPart_at hx ?_ | with_reducible refine hcl.at ?_ | wp_step)
  · exact ⟨_, #[], _, (Heap.get?_update_ne _ _ _ _ nx.symm).trans (Heap.get?_push_at rfl rfl), rfl, fun e z => absurd z (by simp), fun _ => rfl⟩
  · intro h' tk' hn' sb'
    refine hq h' tk' h0.objs.size (fun c o hc ho => (sb'.2 c (Nat.ne_of_lt (Heap.lt_size ho))).trans ((Heap.get?_update_ne _ _ _ _ hc).trans (Heap.get?_push_of_some _ ho))) (Nat.le_refl _) nx.symm ?_ hn'
    exact (sb'.2 x nx).trans (Heap.get?_update_self _ (Heap.get?_push_of_some _ hx) rfl) in
#guard_msgs (pass all) in open Nat
/-- .. a further field -/
theorem ox_more {dx : Addr} {m0 : Str → Option Value} {nl : List Str} (X : K.In h0) (hx : h0.get? x = some { cls := .ref C, dict := some dx, data := .fields fv }) (hns : h0.Ns1 dx m0) (hw : Within m0 nl) (hz : nl.length ≤ 1000) (hcd : PySem.W.clsIn K C = some cd) (hm : refsX b cd.mro = true) (hh : cd.hasDict = true)
    (ha : PySem.W.findIn K (.ref C) fn = some none) (hq : ∀ h' tk', (∀ c o, c ≠ dx → h0.get? c = some o → h'.get? c = some o) → h'.Ns1 dx (fun y => if y = fn then some v else m0 y) → R (.ok (.ret .none)) ⟨h', gs, dr, tk', os⟩) :
    codeAny (model prog w) A (.call (.builtin "object.__setattr__") ⟨[.ref x, .str fn tk, v], []⟩) R ⟨h0, gs, dr, tk0, os⟩ := by
  obtain ⟨oD, _, _, hoD, _, _⟩ := hns.count hw
  have Ix : PySem.W.InstAt h0 x { cls := .ref C, dict := some dx, data := .fields fv } C (some oD) := ⟨hx, rfl, rfl, hoD⟩
  have SFo := F.store_object
  have he := refsX_some hm
  have hob : cd.mro.contains (.type "object") = true := (refsX_has "object" hm).trans b.obj
  have isO : PySem.W.Looks (model prog w) h0 (isInstance (.ref x) (.type "object")) true := Ix.type.andThen (PySem.W.looks_mroIn X (by unfold PySem.W.mroIn; rw [hcd, Option.bind_some, if_neg (by rw [he]; decide), hob]))
  refine codeAny_call_builtin SFo.slot.plain SFo.entry (@PySem.W.check_slot (model prog w) _ _ ⟨h0, gs, dr, tk0, os⟩ "object.__setattr__" "object" "__setattr__" (.ref x) [.str fn tk, v] [] _ SFo.kind SFo.split isO (SFo.args (.ref x) (.str fn tk) v) ?_)
  have hmr : PySem.W.Looks (model prog w) h0 (mroOf (.ref C)) cd.mro := (PySem.W.looks_clsIn X hcd).andThen .now
  have tkr : PySem.W.Looks (model prog w) h0 (storeTaker? none) none := .now
  have hcl : PySem.W.Looks (model prog w) h0 (classData C) cd := PySem.W.looks_clsIn X hcd
  rw [PySem.W.osa_eq, refuse_eq]
  refine wpAny_bind (wpAny_bind (Ix.type.at (wpAny_bind (hmr.at ?_))))
  rw [refsX_pass _ hm]
  refine wpAny_pure (wpAny_bind (Ix.type.at (wpAny_bind ((PySem.W.looks_findIn X ha).at (wpAny_bind (tkr.at ?_))))))
  show wpAny _ _ (storeInOwnDict (.ref x) (.ref C) (.str fn tk) fn v false) _ _ _
  obtain ⟨nm, bs, mro, ns, qn, hd, sn, sb, ab, col, del⟩ := cd
  dsimp only at hh
  subst hh
  unfold storeInOwnDict ownDictForStores
  repeat (first | with_reducible refine store_in_old hns hw hz ?_ | with_reducible refine wpAny_loadPart_at hx ?_ | with_reducible refine hcl.at ?_ | wp_step)
  intro h' tk' hn' sb'
  exact hq h' tk' (fun c o hc ho => (sb'.2 c hc).trans ho) hn' in
#guard_msgs (pass all) in open Nat
end
section
variable {X : Cx} {pins : List (Addr × Obj)} {σ : L2.St} {H : Hp} {s : Shared} {a C dx : Addr} {b : XB} {fn : Str} {y : V} {u : Value} {fs : List (Str × V)} {Qu : Unit → Shared → Prop} {E : Value → Shared → Prop} {A : Around}
theorem OxC.clsIn {K : PySem.W.Frag} (T : OxC K b C) : ∃ cd, PySem.W.clsIn K C = some cd ∧ refsX b cd.mro = true ∧ cd.hasDict = true := by
  obtain ⟨nm, q, N, bs, bm, sn, sub, ab, col, dd, k0, k1, k2, k3, k5, hC, hbm⟩ := T.cls
  exact ⟨{ name := nm, bases := bs, mro := .ref C :: bm, ns := N, qualname := q, hasDict := true, slotNames := sn, subclasses := sub, abstract := ab, collection := col, hasDel := false }, by unfold PySem.W.clsIn; rw [hC] <;> rfl, hbm, rfl⟩ in
#guard_msgs (pass all) in open Nat
theorem ox_put1 (T : OxC X.K b C) (I : Inv X pins σ H s) (e : H a = some (exo a C none)) (hno : PySem.W.findIn X.K (.ref C) fn = some none) (ry : RelV y u)
    (h : ∀ dx s', H dx = none → dx ≠ a → Inv X pins σ (upd (upd H dx (exd dx [(fn, y)])) a (exo a C (some dx))) s' → Qu () s') : wpAny (model X.prog X.w) A (setAttr (.ref a) fn u) Qu E s := by
  obtain ⟨cd, hcl, hmr, hhd⟩ := T.clsIn
  obtain ⟨t1, ho⟩ := exo_at I.hok e
  obtain ⟨h0, gs, dr, t, os⟩ := s
  refine PySem.W.set_plain I.kIn (ox := { cls := .ref C, dict := none, data := .fields #[.ref t1, .none, .none, .none, .bool false, .none] }) (od := none) ⟨ho, rfl, rfl, trivial⟩ T.sa (ox_first I.kIn ho hcl hmr hhd hno fun h' tk' dx k dn dne hx hn => ?_)
  have hnd : H dx = none := I.hok.fresh dn
  have nd : ∀ {c : Addr} {o : Obj}, h0.get? c = some o → c ≠ dx := fun q => Nat.ne_of_lt (Nat.lt_of_lt_of_le (Heap.lt_size q) dn)
  have na : ∀ {c : Addr}, H c = none → c ≠ a := fun n z => by rw [z, e] at n; cases n
  have U1 : Un X.fs [] H (upd (upd H dx (exd dx [(fn, y)])) a (exo a C (some dx))) h0 h' := ⟨fun c o q n _ _ => k c o (na n) q, fun c o q n _ _ => ⟨o.slots, k c o (na n) q⟩, fun c o q n _ => (by rw [upd_ne (na n), upd_ne (nd q)]; exact n),
    fun c o q _ => (by
      by_cases hc : c = a
      · exact ⟨_, by rw [hc]; exact hx⟩
      · exact ⟨o, k c o hc q⟩),
    fun c xs q => (by rw [upd_ne (at_ne e q exo_tup), upd_ne (ne_of_none q hnd)]; exact q), fun c o v q => (by rw [upd_ne (at_ne e q exo_frz), upd_ne (ne_of_none q hnd)]; exact q),
    fun c ps q => ⟨#[], by rw [upd_ne (at_ne e q exo_tbl), upd_ne (ne_of_none q hnd), q]; simp⟩⟩
  refine h dx _ hnd dne (I.un (t' := tk') U1 fun c o q => ?_)
  by_cases hc : c = a
  · subst hc
    rw [upd_same] at q
    cases q
    exact exo_ok hx
  · rw [upd_ne hc] at q
    by_cases hd : c = dx
    · subst hd
      rw [upd_same] at q
      cases q
      exact exd_ok hn (relO_put (fs := []) ry fun g => True.intro)
    · rw [upd_ne hd] at q
      refine (I.hok c o q).stay (fun c2 v2 hc2 z => k c2 v2 (by
        rcases hc2 with hc2 | hc2
        · rw [hc2]; exact hc
        · exact at_ne e hc2 exo_own) z) (fun c2 hc2 => ?_) (fun c2 xs hc2 => ?_)
      · rw [upd_ne (at_ne e hc2 exo_own), upd_ne (ne_of_none hc2 hnd)]; exact hc2
      · rw [upd_ne (at_ne e hc2 exo_tup), upd_ne (ne_of_none hc2 hnd)]; exact hc2 in
#guard_msgs (pass all) in open Nat
theorem ox_put2 (T : OxC X.K b C) (I : Inv X pins σ H s) (e : H a = some (exo a C (some dx))) (ed : H dx = some (exd dx fs)) (hl : fs.length ≤ 900) (hno : PySem.W.findIn X.K (.ref C) fn = some none) (ry : RelV y u)
    (h : ∀ s', Inv X pins σ (upd H dx (exd dx ((fn, y) :: fs))) s' → Qu () s') : wpAny (model X.prog X.w) A (setAttr (.ref a) fn u) Qu E s := by
  obtain ⟨cd, hcl, hmr, hhd⟩ := T.clsIn
  obtain ⟨t1, ho⟩ := exo_at I.hok e
  obtain ⟨mA, hns, rel⟩ := exd_at I.hok ed
  have hw := within_of rel
  obtain ⟨h0, gs, dr, t, os⟩ := s
  obtain ⟨oD, _, _, hoD, _, _⟩ := hns.count hw
  refine PySem.W.set_plain I.kIn (ox := { cls := .ref C, dict := some dx, data := .fields #[.ref t1, .none, .none, .none, .bool false, .none] }) (od := some oD) ⟨ho, rfl, rfl, hoD⟩ T.sa (ox_more I.kIn ho hns hw (by rw [List.length_map]; omega) hcl hmr hhd hno fun h' tk' k hn => ?_)
  have hd : ∃ o, h'.get? dx = some o := by obtain ⟨o, _, _, z, _⟩ := hn; exact ⟨o, z⟩
  exact h _ (I.write (t' := tk') (x := dx) (e := dx) (o := exd dx ((fn, y) :: fs)) (by rw [ed]; exact True.intro) (.inl rfl) k hd (exd_ok hn (relO_put ry rel))) in
#guard_msgs (pass all) in open Nat
/-- B.__init__(self, ..) -/
theorem ox_init {us : List Value} {Qv : Value → Shared → Prop} (T : OxC X.K b C) (I : Inv X pins σ H s) (e : H a = some (exo a C none)) (hl : us.length ≤ sizeLine) (h : ∀ s', Inv X pins σ H s' → Qv .none s') : wpAny (model X.prog X.w) A (call (.builtin b.ini) (.ref a :: us)) Qv E s := by
  obtain ⟨nm, q, N, bs, bm, sn, sub, ab, col, dd, k0, k1, k2, k3, k5, hC, hbm⟩ := T.cls
  obtain ⟨t1, ho⟩ := exo_at I.hok e
  obtain ⟨h0, gs, dr, t, os⟩ := s
  refine wpAny_call (PySem.HandSPX.init_base b.facts (fun Y => refsX_has Y hbm) (I.kIn _ _ hC) ho hl fun h' t2 k hx => ?_)
  have J := I.write (t' := t) (x := a) (e := a) (o := exo a C none) (by rw [e]; exact True.intro) (.inl rfl) k ⟨_, hx⟩ (exo_ok hx)
  rw [show upd H a (exo a C none) = H by
    funext c
    by_cases hc : c = a
    · rw [hc, upd_same, e]
    · rw [upd_ne hc]] at J
  exact h _ J in
#guard_msgs (pass all) in open Nat
end
def tBI (K : PySem.W.Frag) (b : XB) (ta : TA) : TE := fun σ H Q => ta σ H fun vs H1 => ∃ (a C : Addr) (ws : List V), vs = .ref a :: ws ∧ ws.length ≤ 1000 ∧ OxC K b C ∧ H1 a = some (exo a C none) ∧ Q .non H1
def tXs (K : PySem.W.Frag) (b : XB) (fn : Str) (to te : TE) : TS := fun D σ H => te σ H fun y H1 => to σ H1 fun x H2 => ∃ a C : Addr, x = .ref a ∧ OxC K b C ∧ PySem.W.findIn K (.ref C) fn = some none ∧
  ((H2 a = some (exo a C none) ∧ ∀ dx, H2 dx = none → dx ≠ a → D.nx σ (upd (upd H2 dx (exd dx [(fn, y)])) a (exo a C (some dx)))) ∨
    ∃ (dx : Addr) (fs : List (Str × V)), H2 a = some (exo a C (some dx)) ∧ H2 dx = some (exd dx fs) ∧ fs.length ≤ 900 ∧ D.nx σ (upd H2 dx (exd dx ((fn, y) :: fs))))
theorem XB.typ : ∀ b : XB, typeOf (.type b.nm) = pure (.type "type")
  | .v => by kernel_rfl
  | .l => by kernel_rfl
  | .i => by kernel_rfl
theorem XB.boot : ∀ b : XB, bootBuiltins (Str.ofString b.nm) = some (.type b.nm)
  | .v => PyProof.Rows.Boot.«ValueError»
  | .l => PyProof.Rows.Boot.«LookupError»
  | .i => PyProof.Rows.Boot.«IndexError»
theorem XB.row (K : PySem.W.Frag) : ∀ b : XB, PySem.W.findCls K (.type b.nm) (.type "type") "__init__" = some (.val (.builtin b.ini))
  | .v => by kernel_rfl
  | .l => by kernel_rfl
  | .i => by kernel_rfl
section
variable {X : Cx} {o e : Expr} {es : List Expr} {to te : TE} {ta : TA} {fn x : Str} {p p' p1 p2 pos : Pos}
theorem pe_binit {pl : Sem Bool} (b : XB) (hx : x = Str.ofString b.nm) (hg : Gl X x) (hm : X.mg x = none) (ha : PA X (e :: es) ta) (hn : x ≠ "__name__") (hdb : (x == ("__debug__" : Str)) = false)
    (hc : eval (.Call (.Attribute (.Name x p1) "__init__" p2) (e :: es) [] pos) X.env = (do
      let ov ← eval (.Name x p1) X.env
      standAt p2.atName
      let (f, first) ← holding [ov] (getMethod ov "__init__" pl)
      callWith pos f first (backTo pos (starEach (e :: es) X.env)) (backToKw pos (keywordEach [] X.env))) := by rfl)
    (he : starEach (e :: es) X.env = (false, eval e X.env) :: starEach es X.env := by rfl) (hpl : (backTo pos (starEach es X.env)).any (·.1) = false := by rfl) :
    PE X (.Call (.Attribute (.Name x p1) "__init__" p2) (e :: es) [] pos) (tBI X.K b ta) := by
  subst hx
  refine ⟨fun pins s σ H Q I h => ?_⟩
  refine PySem.W.methodCall_KW (ld_blt I hg hm b.boot ?_ hn hdb) hc
  obtain ⟨m, fr⟩ := I.fr
  refine PySem.W.method_type fr I.ok.mod.kin b.typ (by cases b <;> decide +kernel) (b.row X.K) (by cases b <;> decide +kernel) ?_
  show wpAny _ _ (callWith pos (Value.builtin b.ini) [] (backTo pos (starEach (e :: es) X.env)) []) _ _ _
  refine PyProof.Rows.callWith_method1 (thn (ha.run pos pins _ σ H _ (I.tok _) h) fun us s1 ⟨vs, H1, I1, r1, a, C, ws, ev, hl, T, ea, q⟩ => ?_) he hpl
  subst ev
  cases r1 with
  | @cons _ u0 _ ur ra rw' =>
    obtain rfl : u0 = Value.ref a := ra
    exact ox_init T I1 ea (by rw [← Paired.length rw', sizeLine_eq]; omega) fun s' J => ⟨.non, H1, J, rfl, q⟩ in
#guard_msgs (pass all) in open Nat
theorem ps_xs {b : XB} (ho : PE X o to) (he : PE X e te) (hs : swapsWith e (some (.Attribute o fn p')) pos.line X.env = pure false := by rfl) : PS X (.Assign [.Attribute o fn p'] e pos) (tXs X.K b fn to te) := by
  refine ⟨fun pins s σ H D I h => ?_⟩
  refine plainObj_wpAny_Assign_Attribute (thn (he.run pins s σ H _ I h) fun v s1 ⟨y, H1, I1, r1, q1⟩ => thn (ho.run pins s1 σ H1 _ I1 q1) fun u s2 ⟨z, H2, I2, r2, a, C, ez, T, hno, q⟩ => ?_) hs
  subst ez
  obtain rfl : u = Value.ref a := r2
  rcases q with ⟨ea, q⟩ | ⟨dx, fs, ea, ed, hl, q⟩
  · exact ox_put1 T I2 ea hno r1 fun dx s' n ne J => ⟨σ, _, J, q dx n ne⟩
  · exact ox_put2 T I2 ea ed hl hno r1 fun s' J => ⟨σ, _, J, q⟩ in
#guard_msgs (pass all) in open Nat
/-- C(e, ..) -/
theorem pmk_ox {CX : CXT} {C fI : Addr} {k : Nat} {fd : FuncData} {ps : List Str} {sp : Sp} {ds : List Value} {dvs : List V} {b : XB} (T : OxC X.K b C) (iC : PySem.W.findIn X.K (.ref C) "__init__" = some (some (.ref fI))) (tI : PySem.W.typeIn X.K (.ref fI) = some (.type "function"))
    (F1 : FnOk X.prog X.w X.K X.mg X.base CX k fI fd ps sp) (hr : Room (k + 1) X.A) (hb : Binds X.K fd ps ds) (hd : Vals dvs ds) (hx : Passes CX X (fun _ _ _ => False)) (hg : Gl X x) (hm : X.mg x = some (.ref C)) (ha : PA X (e :: es) ta)
    (hdb : (x == ("__debug__" : Str)) = false := by decide) (he : starEach (e :: es) X.env = (false, eval e X.env) :: starEach es X.env := by rfl) (hpl : (backTo pos (starEach es X.env)).any (·.1) = false := by rfl) :
    PMk X (.Call (.Name x p) (e :: es) [] pos) (tMkO C sp dvs ta) := by
  intro pins s σ H Q I h
  obtain ⟨nm, q, N, bs, bm, sn, sub, ab, col, dd, k0, k1, k2, k3, k5, hC, hbm⟩ := T.cls
  refine wpAny_Call_Name_kw (ld_glob I hg hm ?_ hdb)
  refine PySem.W.callWith_K (h₀ := X.base) I.ok.mod.kin T.kC (thn (ha.run pos pins s σ H _ I h) fun us s1 ⟨vs, H1, I1, r1, hz, q1⟩ => ⟨I1.kIn, ?_⟩) he hpl
  show wpAny _ _ (call (.ref C) us) _ _ _
  obtain ⟨h0, gs, dr, tk, os⟩ := s1
  obtain ⟨n0, hn0⟩ : ∃ n0, n0 = h0.objs.size + 1 := ⟨_, rfl⟩
  have hsz : h0.objs.size ≤ n0 := by omega
  have hq := q1 n0 (I1.hok.fresh hsz)
  obtain ⟨G, hG⟩ : ∃ G, G = (h0.push (PySem.W.kdv_tup us)).push (PySem.HandSPX.excO C h0.objs.size) := ⟨_, rfl⟩
  have kk : ∀ c o, h0.get? c = some o → G.get? c = some o := fun c o z => by rw [hG]; exact Heap.get?_push_of_some _ (Heap.get?_push_of_some _ z)
  have at_ : G.get? n0 = some (PySem.HandSPX.excO C h0.objs.size) := by rw [hG, hn0]; heap_get
  have J : L2.Inv X pins σ (upd H1 n0 (exo n0 C none)) ⟨G, gs, dr, tk, os⟩ := I1.laid (t' := tk) kk hsz (exo_ok at_)
  have rv : Vals (V.ref n0 :: (vs ++ dvs)) (Value.ref n0 :: (us ++ ds)) := .cons rfl (r1.append hd)
  have hl : (Value.ref n0 :: us ++ ds).length = ps.length := by
    have z := rv.length
    rw [F1.len _ _ _ _ hq] at z
    exact z.symm
  have hus : us.length ≤ sizeLine := by rw [← Paired.length r1, sizeLine_eq]; omega
  have run := F1.run _ X.stack _ _ ⟨Value.ref n0 :: us, []⟩ (Value.ref n0 :: (us ++ ds)) _ _ (fun _ _ _ => False) (hr.make C us []) (J.env0.make C us []) (hb _ (Value.ref n0 :: us) J.kIn hl) rv hq
  rw [hG, hn0] at run
  refine wpAny_call (PySem.HandSPX.call_own b.facts (fun Y => refsX_has Y hbm) (I1.kIn _ _ hC) (PySem.W.looks_findIn I1.kIn iC) (fun self => PySem.W.bind_fn I1.kIn self tI) hus (codeAny_mono run fun r s' hr' => ?_))
  rw [← hG, ← hn0] at hr'
  cases r with
  | error er => exact hx pins σ _ _ er s' J hr'
  | ok fl =>
    cases fl with
    | ret u =>
      obtain ⟨v, H2, os2, bare2, un2, hok2, rv2, ev, d, fs, ea, ed, hd1, q2⟩ := hr'
      subst ev
      obtain ⟨h2, g2, d2, t2, os'⟩ := s'
      rw [← hn0]
      exact ⟨rv2, mk_end (raises_own T.exC T.tyC) I1 hsz kk un2 hok2 os2 bare2 ea ed hd1 q2⟩
    | next => exact hr'.elim
    | brk => exact hr'.elim
    | cont => exact hr'.elim in
#guard_msgs (pass all) in open Nat
/-- C() -/
theorem pmk_ox0 {CX : CXT} {C fI : Addr} {k : Nat} {fd : FuncData} {ps : List Str} {sp : Sp} {ds : List Value} {dvs : List V} {b : XB} (T : OxC X.K b C) (iC : PySem.W.findIn X.K (.ref C) "__init__" = some (some (.ref fI))) (tI : PySem.W.typeIn X.K (.ref fI) = some (.type "function"))
    (FI : FnOk X.prog X.w X.K X.mg X.base CX k fI fd ps sp) (hr : Room (k + 1) X.A) (hb : Binds X.K fd ps ds) (hd : Vals dvs ds) (hx : Passes CX X (fun _ _ _ => False)) (hg : Gl X x) (hm : X.mg x = some (.ref C)) (hdb : (x == ("__debug__" : Str)) = false := by decide) : PMk X (.Call (.Name x p) [] [] pos) (tMkO C sp dvs tNil) := by
  intro pins s σ H Q I hq
  obtain ⟨nm, q, N, bs, bm, sn, sub, ab, col, dd, k0, k1, k2, k3, k5, hC, hbm⟩ := T.cls
  refine wpAny_Call_Name_kw (ld_glob I hg hm (PySem.W.callWith_K0 I.kIn T.kC ?_) hdb)
  obtain ⟨_, hq⟩ := hq
  obtain ⟨h0, gs, dr, tk, os⟩ := s
  obtain ⟨n0, hn0⟩ : ∃ n0, n0 = h0.objs.size + 1 := ⟨_, rfl⟩
  have hsz : h0.objs.size ≤ n0 := by omega
  have hq2 := hq n0 (I.hok.fresh hsz)
  obtain ⟨G, hG⟩ : ∃ G, G = (h0.push (PySem.W.kdv_tup [])).push (PySem.HandSPX.excO C h0.objs.size) := ⟨_, rfl⟩
  have kk : ∀ c o, h0.get? c = some o → G.get? c = some o := fun c o z => by rw [hG]; exact Heap.get?_push_of_some _ (Heap.get?_push_of_some _ z)
  have at_ : G.get? n0 = some (PySem.HandSPX.excO C h0.objs.size) := by rw [hG, hn0]; heap_get
  have J : L2.Inv X pins σ (upd H n0 (exo n0 C none)) ⟨G, gs, dr, tk, os⟩ := I.laid (t' := tk) kk hsz (exo_ok at_)
  have rv : Vals (V.ref n0 :: ([] ++ dvs)) ([Value.ref n0] ++ ds) := .cons rfl hd
  have hl : ([Value.ref n0] ++ ds).length = ps.length := by
    have z := rv.length
    rw [FI.len _ _ _ _ hq2] at z
    exact z.symm
  have run := FI.run _ X.stack _ _ ⟨Value.ref n0 :: [], []⟩ ([Value.ref n0] ++ ds) _ _ (fun _ _ _ => False) (hr.make C [] []) (J.env0.make C [] []) (hb _ (Value.ref n0 :: []) J.kIn hl) rv hq2
  rw [hG, hn0] at run
  refine wpAny_call (PySem.HandSPX.call_own b.facts (fun Y => refsX_has Y hbm) (I.kIn _ _ hC) (PySem.W.looks_findIn I.kIn iC) (fun self => PySem.W.bind_fn I.kIn self tI) (by simp) (codeAny_mono run fun r s' hr' => ?_))
  rw [← hG, ← hn0] at hr'
  cases r with
  | error er => exact hx pins σ _ _ er s' J hr'
  | ok fl =>
    cases fl with
    | ret u =>
      obtain ⟨v, H2, os2, bare2, un2, hok2, rv2, ev, d, fs, ea, ed, hd1, q2⟩ := hr'
      subst ev
      obtain ⟨h2, g2, d2, t2, os'⟩ := s'
      rw [← hn0]
      exact ⟨rv2, mk_end (raises_own T.exC T.tyC) I hsz kk un2 hok2 os2 bare2 ea ed hd1 q2⟩
    | next => exact hr'.elim
    | brk => exact hr'.elim
    | cont => exact hr'.elim in
#guard_msgs (pass all) in open Nat
end
end DL
namespace DL
open PySem PySem.Spec PyProof.Rows L2 ClX
section
variable {X : Cx} {x m : Str} {C f : Addr} {mc : Value} {CX : CXT} {k : Nat} {fd : FuncData} {ps : List Str} {sp : Sp} {ds : List Value} {dvs : List V} {E : XK} {e : Expr} {es : List Expr} {t : TA} {p1 p2 pos : Pos}
theorem pe_cfun {pl : Sem Bool} (F : FnOk X.prog X.w X.K X.mg X.base CX k f fd ps sp) (hr : Room k X.A) (hg : Gl X x) (hm : X.mg x = some (.ref C)) (rC : CRead X.K C mc) (vC : CVal X.K C mc m (.ref f) (.ref f)) (hk : PySem.W.keepIn X.K (.ref f) = true)
    (hb : Binds X.K fd ps ds) (hd : Vals dvs ds) (hx : Passes CX X E) (ha : PA X (e :: es) t) (hdb : (x == ("__debug__" : Str)) = false := by decide)
    (hc : eval (.Call (.Attribute (.Name x p1) m p2) (e :: es) [] pos) X.env = (do
      let ov ← eval (.Name x p1) X.env
      standAt p2.atName
      let (f, first) ← holding [ov] (getMethod ov m pl)
      callWith pos f first (backTo pos (starEach (e :: es) X.env)) (backToKw pos (keywordEach [] X.env))) := by rfl)
    (he : starEach (e :: es) X.env = (false, eval e X.env) :: starEach es X.env := by rfl) (hpl : (backTo pos (starEach es X.env)).any (·.1) = false := by rfl) :
    PE X (.Call (.Attribute (.Name x p1) m p2) (e :: es) [] pos) (tCall sp dvs E t) := by
  refine ⟨fun pins s0 σ H Q I hq => ?_⟩
  refine PySem.W.methodCall_KW (ld_glob I hg hm (PySem.W.method_cls I.kIn rC.ga (getcval_ok I rC vC fun s1 J => ?_)) hdb) hc
  refine PySem.W.callWith_K (h₀ := X.base) J.ok.mod.kin hk (thn (ha.run pos pins s1 σ H _ J hq) fun us s2 hh => ?_) he hpl
  obtain ⟨vs, H1, I1, r1, q1⟩ := hh
  exact ⟨I1.kIn, run_fn F hr hb hd hx I1 r1 q1⟩ in
#guard_msgs (pass all) in open Nat
end
/-- what is known of an own exception's class: its fields are no attributes of the class -/
structure XcC (K : PySem.W.Frag) (b : XB) (C : Addr) : Prop where
  o : OxC K b C
  f : XfC K C
  called : PySem.W.findIn K (.ref C) "called" = some none
  at_ : PySem.W.findIn K (.ref C) "at" = some none
  name : PySem.W.findIn K (.ref C) "name" = some none
  what : PySem.W.findIn K (.ref C) "what" = some none
/-- __init__(self, ..): the fields are g of the arguments -/
def spX (K : PySem.W.Frag) (b : XB) (n : Nat) (g : List V → List (Str × V)) : Sp := fun vs H Q _ => ∃ (a C : Addr) (ws : List V), vs = .ref a :: ws ∧ ws.length = n ∧ XcC K b C ∧ H a = some (exo a C none) ∧
  ∀ dx, H dx = none → dx ≠ a → Q .non (upd (upd H dx (exd dx (g ws))) a (exo a C (some dx)))
theorem spX_len {K : PySem.W.Frag} {b : XB} {n : Nat} {g : List V → List (Str × V)} : ∀ vs H Q E, spX K b n g vs H Q E → vs.length = n + 1 := fun vs H Q E ⟨a, C, ws, e, l, _⟩ => by rw [e, List.length_cons, l]
theorem upd_upd {H : Hp} {a b : Addr} {o o' u : HO} (h : b ≠ a) : upd (upd (upd H b o) a u) b o' = upd (upd H b o') a u := by
  funext c
  by_cases h1 : c = b
  · subst h1; rw [upd_same, upd_ne h, upd_same]
  · by_cases h2 : c = a
    · subst h2; rw [upd_ne h1, upd_same, upd_same]
    · rw [upd_ne h1, upd_ne h2, upd_ne h1, upd_ne h2, upd_ne h1] in
#guard_msgs (pass all) in open Nat
section
variable {K : PySem.W.Frag} {vs : List V} {H : Hp} {Q : VK} {E : XK} {sp : Sp} {c fl : Str} {n : Nat} {b : XB}
/-- the base: B.__init__(self, called); self.called = called -/
theorem base_read (h : spX K b 1 (fun ws => [("called", ws.getD 0 .non)]) vs H Q E) : tSeq (tDrop (tBI K b (tCons (tVar 0) (tCons (tVar 1) tNil)))) (tXs K b "called" (tVar 0) (tVar 1)) { nx := fun _ H' => Q .non H', rt := Q } (L2.start ["self", "called"] vs) H := by
  obtain ⟨a, C, ws, rfl, hl, T, ha, hq⟩ := h
  obtain ⟨v, rfl⟩ : ∃ v, ws = [v] := by
    match ws, hl with
    | [v], _ => exact ⟨v, rfl⟩
  refine ⟨.ref a, rfl, v, rfl, a, C, [v], rfl, by simp, T.o, ha, ?_⟩
  exact ⟨v, rfl, .ref a, rfl, a, C, rfl, T.o, T.called, .inl ⟨ha, hq⟩⟩ in
#guard_msgs (pass all) in open Nat
/-- B.__init__(self, called); self.called = called; self.name = name -/
theorem base2_read (h : spX K b 2 (fun ws => [("name", ws.getD 1 .non), ("called", ws.getD 0 .non)]) vs H Q E) : tSeq (tDrop (tBI K b (tCons (tVar 0) (tCons (tVar 1) tNil)))) (tSeq (tXs K b "called" (tVar 0) (tVar 1)) (tXs K b "name" (tVar 0) (tVar 2))) { nx := fun _ H' => Q .non H', rt := Q } (L2.start ["self", "called", "name"] vs) H := by
  obtain ⟨a, C, ws, rfl, hl, T, ha, hq⟩ := h
  obtain ⟨v, u, rfl⟩ : ∃ v u, ws = [v, u] := by
    match ws, hl with
    | [v, u], _ => exact ⟨v, u, rfl⟩
  refine ⟨.ref a, rfl, v, rfl, a, C, [v], rfl, by simp, T.o, ha, ?_⟩
  refine ⟨v, rfl, .ref a, rfl, a, C, rfl, T.o, T.called, .inl ⟨ha, fun dx h1 h2 => ?_⟩⟩
  refine ⟨u, rfl, .ref a, rfl, a, C, rfl, T.o, T.name, .inr ⟨dx, [("called", v)], upd_same, ?_, by simp, ?_⟩⟩
  · rw [upd_ne h2, upd_same]
  · rw [upd_upd h2]
    exact hq dx h1 h2 in
#guard_msgs (pass all) in open Nat
/-- B.__init__(self, 'c'); self.called = 'c' -/
theorem base0_read (h : spX K b 0 (fun _ => [("called", .str c)]) vs H Q E) : tSeq (tDrop (tBI K b (tCons (tVar 0) (tCons (tC (.str c)) tNil)))) (tXs K b "called" (tVar 0) (tC (.str c))) { nx := fun _ H' => Q .non H', rt := Q } (L2.start ["self"] vs) H := by
  obtain ⟨a, C, ws, rfl, hl, T, ha, hq⟩ := h
  obtain rfl : ws = [] := List.length_eq_zero_iff.mp hl
  refine ⟨.ref a, rfl, a, C, [.str c], rfl, by simp, T.o, ha, ?_⟩
  exact ⟨.ref a, rfl, a, C, rfl, T.o, T.called, .inl ⟨ha, hq⟩⟩ in
#guard_msgs (pass all) in open Nat
/-- over it: D.__init__(self, 'c') -/
theorem over_read (h : spX K b 0 (fun _ => [("called", .str c)]) vs H Q E) : tDrop (tCall (spX K b 1 fun ws => [("called", ws.getD 0 .non)]) [] (fun _ _ _ => False) (tCons (tVar 0) (tCons (tC (.str c)) tNil))) { nx := fun _ H' => Q .non H', rt := Q } (L2.start ["self"] vs) H := by
  obtain ⟨a, C, ws, rfl, hl, T, ha, hq⟩ := h
  obtain rfl : ws = [] := List.length_eq_zero_iff.mp hl
  exact ⟨.ref a, rfl, a, C, [.str c], rfl, rfl, T, ha, fun dx h1 h2 => hq dx h1 h2⟩ in
#guard_msgs (pass all) in open Nat
/-- over it: D.__init__(self, 'c', name) -/
theorem over2_read (h : spX K b 1 (fun ws => [("name", ws.getD 0 .non), ("called", .str c)]) vs H Q E) : tDrop (tCall (spX K b 2 fun ws => [("name", ws.getD 1 .non), ("called", ws.getD 0 .non)]) [] (fun _ _ _ => False) (tCons (tVar 0) (tCons (tC (.str c)) (tCons (tVar 1) tNil)))) { nx := fun _ H' => Q .non H', rt := Q } (L2.start ["self", "name"] vs) H := by
  obtain ⟨a, C, ws, rfl, hl, T, ha, hq⟩ := h
  obtain ⟨v, rfl⟩ : ∃ v, ws = [v] := by
    match ws, hl with
    | [v], _ => exact ⟨v, rfl⟩
  exact ⟨.ref a, rfl, v, rfl, a, C, [.str c, v], rfl, rfl, T, ha, fun dx h1 h2 => hq dx h1 h2⟩ in
#guard_msgs (pass all) in open Nat
theorem noOut {X : Cx} : Passes (L2.CX X.prog X.w) X (fun _ _ _ => False) := fun _ _ _ _ _ _ _ z => by
  obtain ⟨_, _, _, _, _, _, _, _, _, _, _, _, z⟩ := z
  exact z.elim
end
def sRaise (n : Str) (g : List D → List (Str × D)) (w : WA) : WS := fun f ρ cs => w ρ cs (fun ds cs1 => f.ex ⟨n, g ds⟩ ρ cs1) (fun x cs1 => f.ex x ρ cs1)
/-- what the fields are, of values and of data -/
def FldOk (K : PySem.W.Frag) (gV : List V → List (Str × V)) (g : List D → List (Str × D)) : Prop := ∀ (G : Hp) (vs : List V) (ds : List D), RepL K G vs ds → RepX K G (gV vs) (g ds)
theorem mk_heap {H : Hp} {a d C : Addr} {fs : List (Str × V)} (h : H a = none) (hd : d ≠ a) : upd (L2.del (upd (upd (upd H a (exo a C none)) d (exd d fs)) a (exo a C (some d))) a) d (.xd fs) = upd H d (.xd fs) := by
  funext c
  by_cases h1 : c = d
  · subst h1; rw [upd_same, upd_same]
  · rw [upd_ne h1, upd_ne h1]
    by_cases h2 : c = a
    · subst h2; rw [L2.del_same, h]
    · rw [L2.del_ne h2, upd_ne h2, upd_ne h1, upd_ne h2] in
#guard_msgs (pass all) in open Nat
section
variable {X : Cx} {W : WX} {K : PySem.W.Frag} {σ : L2.St} {H : Hp} {n : Str} {g : List D → List (Str × D)} {gV : List V → List (Str × V)} {dvs : List V} {dds : List D} {m l : Nat} {w : WA} {b : XB}
theorem raise_ok (hT : XcC K b (He.ga K n)) (hg : FldOk K gV g) (hd : ∀ G, RepL K G dvs dds) (hm : m + dds.length = l) (hl : m ≤ 1000) {E : Ends} : lS K W (sRaise n (fun ds => g (ds ++ dds)) w) E σ H → tMkO (He.ga K n) (spX K b l gV) dvs (lA K W m w) σ H (fun cls d H' => W cls d σ H') := by
  rintro ⟨F, cs, ρ, f, s, re, hw, pe⟩
  refine ⟨F, cs, ρ, _, _, s, re, hw, fun H1 cs1 vs ds s1 r1 l1 h1 => ?_, pe.px re⟩
  refine ⟨by rw [r1.length, l1]; exact hl, fun a ha => ⟨a, He.ga K n, vs ++ dvs, rfl, by rw [List.length_append, r1.length, l1, (hd H).length]; exact hm, hT, upd_same, fun dx h2 h3 => ?_⟩⟩
  have hdx : H1 dx = none := by rw [upd_ne h3] at h2; exact h2
  refine ⟨rfl, dx, _, upd_same, by rw [upd_ne h3, upd_same], hdx, ?_⟩
  rw [mk_heap ha h3]
  obtain ⟨s2, e2⟩ := s1.new (o := .xd (gV (vs ++ dvs))) hdx
  refine pe.ex _ cs1 σ ρ ⟨n, g (ds ++ dds)⟩ _ (s2.from_ s1.gr) (re.mono (s1.gr.trans s2.gr)) ⟨dx, _, rfl, e2, (hg _ _ _ (r1.append (hd _))).mono s2.gr⟩ h1 in
#guard_msgs (pass all) in open Nat
variable {x : Str} {fI : Addr} {k : Nat} {fd : FuncData} {ps : List Str} {ds : List Value} {p pos pos' : Pos} {e : Expr} {es : List Expr}
/-- raise C() -/
theorem ds_raise0 (hc : X.calm = true) (tk : Takes X W) (hT : XcC X.K b (He.ga X.K x)) (iC : PySem.W.findIn X.K (.ref (He.ga X.K x)) "__init__" = some (some (.ref fI))) (tI : PySem.W.typeIn X.K (.ref fI) = some (.type "function"))
    (FI : FnOk X.prog X.w X.K X.mg X.base (L2.CX X.prog X.w) k fI fd ps (spX X.K b l gV)) (hr : Room (k + 1) X.A) (hb : Binds X.K fd ps ds) (hd : Vals dvs ds) (hdd : ∀ G, RepL X.K G dvs dds) (hn : 0 + dds.length = l) (hg : FldOk X.K gV g) (hgl : Gl X x) (hm : X.mg x = some (.ref (He.ga X.K x)))
    (hdb : (x == ("__debug__" : Str)) = false := by decide) : DS X W (.Raise (some (.Call (.Name x p) [] [] pos)) none pos') (sRaise x (fun ds => g (ds ++ dds)) wNil) :=
  PS.imp (ps_raise hc tk (pmk_ox0 hT.o iC tI FI hr hb hd noOut hgl hm hdb)) fun E σ H h => by
    have z := raise_ok (m := 0) hT hg hdd hn (by decide) h
    obtain ⟨F, cs, ρ, P, Z, s, re, hw, pe, px⟩ := z
    exact pe H cs [] [] s .nil rfl hw in
#guard_msgs (pass all) in open Nat
/-- raise C(e, ..) -/
theorem ds_raise (hc : X.calm = true) (tk : Takes X W) (hT : XcC X.K b (He.ga X.K x)) (iC : PySem.W.findIn X.K (.ref (He.ga X.K x)) "__init__" = some (some (.ref fI))) (tI : PySem.W.typeIn X.K (.ref fI) = some (.type "function"))
    (FI : FnOk X.prog X.w X.K X.mg X.base (L2.CX X.prog X.w) k fI fd ps (spX X.K b l gV)) (hr : Room (k + 1) X.A) (hb : Binds X.K fd ps ds) (hd : Vals dvs ds) (hdd : ∀ G, RepL X.K G dvs dds) (hn : (e :: es).length + dds.length = l) (hl : (e :: es).length ≤ 1000) (hg : FldOk X.K gV g) (hgl : Gl X x) (hm : X.mg x = some (.ref (He.ga X.K x)))
    (ha : DA X W (e :: es) w) (hdb : (x == ("__debug__" : Str)) = false := by decide) (he : starEach (e :: es) X.env = (false, eval e X.env) :: starEach es X.env := by rfl) (hpl : (backTo pos (starEach es X.env)).any (·.1) = false := by rfl) :
    DS X W (.Raise (some (.Call (.Name x p) (e :: es) [] pos)) none pos') (sRaise x (fun ds => g (ds ++ dds)) w) :=
  PS.imp (ps_raise hc tk (pmk_ox hT.o iC tI FI hr hb hd noOut hgl hm ha hdb he hpl)) fun E σ H h => raise_ok hT hg hdd hn hl h in
#guard_msgs (pass all) in open Nat
end
end DL
namespace DL
open PySem PySem.Spec PyProof.Rows L2 LamX
theorem Un.less {a : Addr} {fs : List Addr} {H H' : Hp} {h h' : Heap} (u : Un (a :: fs) [] H H' h h') (n : h.get? a = none) : Un fs [] H H' h h' := by
  have ne : ∀ {b : Addr} {o : Obj}, h.get? b = some o → b ≠ a := fun {b o} e z => by
    rw [z, n] at e; cases e
  exact {
    keep := fun b o e q nf nx => u.keep b o e q (fun z => (List.mem_cons.mp z).elim (ne e) nf) nx
    slot := fun b o e q f nx => u.slot b o e q (List.mem_cons_of_mem _ f) nx
    free := u.free
    there := u.there
    tups := u.tups
    frzs := u.frzs
    tbls := u.tbls } in
#guard_msgs (pass all) in open Nat
/-- what a table tells: each code object bears the name q -/
def TabT (H : Hp) (ps : Array Value) (q : Str) : Prop := TriplesOk ps.toList ∧ ∀ (pos : Pos) (cv : Value), codeAmong pos ps.toList = some cv → ∃ c, cv = .ref c ∧ H c = some (CodeO c q)
section
variable {X : Cx} {pins : List (Addr × Obj)} {σ : L2.St} {H : Hp} {s : Shared}
/-- the object of the lambda -/
abbrev lamO (X : Cx) (params : Arguments) (body : Expr) (scope : Scope) (pm ctv : Value) (c' : Addr) : Obj :=
  PySem.W.kla_obj "<lambda>" (X.env.qual ++ "<lambda>") params body scope (cloFrom X.env.cells scope.names []) pm c' ctv
/-- the heap behind the making: the same, or a code object more -/
inductive LamH (H : Hp) (P c' : Addr) (q : Str) (ps : Array Value) : Hp → Prop
  | hit : H c' = some (CodeO c' q) → LamH H P c' q ps H
  | new {p1 : Array Value} : H c' = none → TriplesOk p1.toList → (∀ (pos : Pos) (cv : Value), codeAmong pos p1.toList = some cv → codeAmong pos ps.toList = some cv ∨ cv = .ref c') → LamH H P c' q ps (upd (upd H P (.tbl p1)) c' (CodeO c' q))
theorem lam_make {c P : Addr} {ps : Array Value} {params : Arguments} {body : Expr} {scope : Scope} {pos : Pos} {E Q : Value → Shared → Prop} (I : Inv X pins σ H s) (TB : TabB X.base X.mg c P) (hcode : X.env.code = .ref c)
    (hP : H P = some (.tbl ps)) (hT : TabT H ps (X.env.qual ++ "<lambda>")) (hdef : defaultsOf params X.env = ([], [])) (hfree : ∀ y ∈ scope.names, y.2 = .free → ∃ c, X.env.cells.lookup y.1 = some c)
    (h : ∀ (f c' : Addr) (pm ctv : Value) (H1 : Hp) (s' : Shared), Inv X pins σ H1 s' → LamH H P c' (X.env.qual ++ "<lambda>") ps H1 → s'.heap.get? f = some (lamO X params body scope pm ctv c') → H1 f = none → f ∉ frs X.stack → Q (.ref f) s') :
    wpAny (model X.prog X.w) X.A (eval (.Lambda params body scope pos) X.env) Q E s := by
  obtain ⟨tOk, tIn⟩ := hT
  have kB : s.heap.BuiltinsAt X.mg P := TB.bm.keeps I.bk
  have kC := TB.code.keeps I.bk
  have kG := I.mod.glob.keeps I.bk
  have obP : s.heap.get? P = some { cls := .none, data := .fields ps } := I.hok P _ hP
  have far : ∀ f, s.heap.objs.size ≤ f → f ∉ frs X.stack := fun f le z => by
    rcases List.mem_cons.mp (I.stkSub _ z) with e | e
    · exact Nat.lt_irrefl _ (Nat.lt_of_lt_of_le (e ▸ I.lt) le)
    · exact I.nofs le e
  apply PySem.W.kla_eval hdef
  rcases hc : codeAmong pos ps.toList with _ | cv
  · apply PySem.W.kla_makeFunction (mg := X.mg) (c := c) (P := P) (ps := ps) (closure_ok hfree) I.ok.glob kG hcode kC obP tOk hc TB.gP kB
    intro c' ctv h' tk ext cge clt crec tab
    obtain ⟨c2, oc, fvs, t, e2, hoc, hd, hv⟩ := crec
    cases e2
    have nc : H c' = none := I.hok.fresh cge
    have le : s.heap.objs.size ≤ h'.objs.size := Nat.le_trans cge (Nat.le_of_lt clt)
    have J := inv_table (t' := tk) (q := X.env.qual ++ "<lambda>") (more := #[rawInt pos.line, rawInt pos.col, .ref c']) (h' := h'.push (lamO X params body scope ((X.mg "__name__").getD .none) ctv c')) I hP
      (fun b o hb e => Heap.get?_push_of_some _ (ext b o hb e)) (Heap.get?_push_of_some _ tab) cge ⟨oc, fvs, t, Heap.get?_push_of_some _ hoc, hd, hv⟩
    have eL : (ps ++ #[rawInt pos.line, rawInt pos.col, .ref c']).toList = ps.toList ++ [rawInt pos.line, rawInt pos.col, .ref c'] := by simp
    refine h h'.objs.size c' _ ctv _ _ J (.new nc ?_ fun p' cv z => ?_) (Heap.get?_push_size _ rfl) ?_ (far _ le)
    · rw [eL]; exact PySem.TriplesOk_snoc _ _ _ _ tOk
    · rw [eL] at z; exact among_app _ tOk z
    · have a1 : h'.objs.size ≠ c' := Nat.ne_of_gt clt
      have a2 : h'.objs.size ≠ P := Nat.ne_of_gt (Nat.lt_of_lt_of_le (Heap.lt_size obP) le)
      rw [upd_ne a1, upd_ne a2]
      exact I.hok.fresh le
  · obtain ⟨c', rfl, hco⟩ := tIn pos cv hc
    apply PySem.W.kla_makeFunctionHit (mg := X.mg) (c := c) (P := P) (ps := ps) (closure_ok hfree) I.ok.glob kG hcode kC obP tOk hc kB
    intro ctv h' tk ext le
    refine h h'.objs.size c' _ ctv H _ (I.kept (t' := tk) fun b o e => Heap.get?_push_of_some _ (ext b o e)) (.hit hco) (Heap.get?_push_size _ rfl) (I.hok.fresh le) (far _ le) in
#guard_msgs (pass all) in open Nat
end
structure Thunk (P : Program) (w : World) (K : PySem.W.Frag) (mg : Str → Option Value) (base : Heap) (k : Nat) (fs : List Addr) (H : Hp) (s : Shared) (f c' : Addr) (q : Str) (t : XK → Hp → VK → Prop) : Prop where
  obj : ∃ o fd, s.heap.get? f = some o ∧ o.data = .func fd ∧ o.cls = .type "function" ∧ o.dict = none ∧ o.slots = #[]
  no : H f = none
  nf : f ∉ fs
  run : ∀ (A : Around) (outer : List PySem.Env) (s1 : Shared) (H1 : Hp) (Q : VK) (E : XK), Room k A → Env0 P w K mg base A outer s1 H1 → Un fs [] H H1 s.heap s1.heap → H1 c' = some (CodeO c' q) → t E H1 Q →
    codeAny (model P w) A (.call (.ref f) ⟨[], []⟩) (CR (L2.CX P w) outer P w H1 s1 Q E) s1
theorem lam_thunk {X : Cx} {pins : List (Addr × Obj)} {σ : L2.St} {H : Hp} {s : Shared} {f c' : Addr} {pm ctv : Value} {params : Arguments} {body : Expr} {scope : Scope} {k : Nat} {t : XK → TE} (I : Inv X pins σ H s) (L : LamS X.env.scope scope)
    (hf : s.heap.get? f = some (lamO X params body scope pm ctv c')) (hfn : H f = none) (hfr : f ∉ frs X.stack)
    (hbind : ∀ (q : Str) (cl : List (Str × Addr)) (pm cv ctv : Value), bindArgs (PySem.W.kla_fn "<lambda>" q params body scope cl pm cv ctv) ⟨[], []⟩ = pure [])
    (hbody : ∀ (A : Around) (outer : List PySem.Env) (s : Shared) (H : Hp) (E : XK), Room k (A.deeper (lamEnv X scope s.heap.objs.size f c')) → PE (lamCx X A outer s H E scope f c') body (t E)) :
    Thunk X.prog X.w X.K X.mg X.base (k + 1) (frs X.stack) H s f c' (X.env.qual ++ "<lambda>") (fun E H Q => t E σ H Q) := by
  refine ⟨⟨_, _, hf, rfl, rfl, rfl, rfl⟩, hfn, hfr, fun A outer s1 H1 Q E hr e0 un hc ht => ?_⟩
  have of1 := un.keep f _ hf hfn hfr (by simp)
  obtain ⟨⟨oc, fvs, tx, hoc, hdc, hvc⟩, _, _⟩ := e0.hok c' _ hc
  have lim : s1.heap.NoLimit := e0.mod.nolimit.keeps fun b o e => (e0.bs b o e).1
  refine PySem.W.kla_callFunE hr.depth of1 rfl L.co L.gen rfl ⟨c', oc, fvs, tx, rfl, hoc, hdc, hvc⟩ ?_
  rw [hbind]
  refine wpAny_pure (wpAny_newFunctionEnv (fun y hy => (L.own y hy).2) (fun y hy => absurd hy (by simp)) (fun h1 hns hsb => ⟨lim.fresh _ hsb, ?_⟩) L.kind)
  have kp : ∀ b o, s1.heap.get? b = some o → h1.get? b = some o := fun b o e => hsb.extBut b o (Nat.ne_of_lt (Heap.lt_size e)) (Heap.get?_push_of_some _ e)
  have J := lam_start2 (E := E) (f := f) (c' := c') (tk := s1.toks + ([] : List (Str × Value)).length) I L e0 hr.hd un hns kp
  refine PySem.W.kla_codeExpr (wpAny_mono ((hbody _ _ s1 H1 E (hr.deeper _)).run [] _ _ H1 Q J ht) (fun v s' hq => ?_) fun e s' hq => hq)
  obtain ⟨w', H', J', rv, q⟩ := hq
  exact ⟨w', H', J'.os, J'.bare, J'.base, J'.hok, rv, q⟩ in
#guard_msgs (pass all) in open Nat
/-- x(), x a slot that holds the thunk; Z: the def that got it, entered at s -/
theorem pe_thunk {Z : Cx} {W : WX} {i k : Nat} {a : Str} {f c' : Addr} {q : Str} {t : XK → Hp → VK → Prop} {p1 p2 : Pos} (th : Thunk Z.prog Z.w Z.K Z.mg Z.base k Z.fs Z.H_0 Z.s_0 f c' q t) (hex : Z.ex = []) (tk : Takes Z W) (hr : Room k Z.A)
    (hN : Z.N[i]? = some a) (hv : Vis Z.env.scope a) (hd : (a == ("__debug__" : Str)) = false := by decide) (hcd : (a == ("__classdict__" : Str)) = false := by decide) :
    PE Z (.Call (.Name a p1) [] [] p2) (fun σ H Q => σ[i]? = some (some (.ref f)) ∧ H c' = some (CodeO c' q) ∧ ∃ (E' : XK) (Q' : VK), (∀ c d H, E' c d H → W c d σ H) ∧ (∀ v H, Q' v H → Q v H) ∧ t E' H Q') := by
  refine ⟨fun pins s σ H Q I h => ?_⟩
  obtain ⟨hs, hc, E', Q', hE, hQ, ht⟩ := h
  refine wpAny_Call_Name_kw (thn ((pe_var (pos := p1) (i := i) hN hv hd hcd).run pins s σ H (fun v H1 => v = .ref f ∧ H1 = H) I ⟨.ref f, hs, rfl, rfl⟩) fun u s1 ⟨v, H1, I1, r1, q1⟩ => ?_)
  obtain ⟨rfl, rfl⟩ := q1
  obtain rfl : u = Value.ref f := r1
  have un : Un Z.fs [] Z.H_0 H1 Z.s_0.heap s1.heap := hex ▸ I1.base
  obtain ⟨o, fd, o1, o2, o3, o4, o5⟩ := th.obj
  obtain ⟨oc, od, odt, osl⟩ := o
  subst o2 o3 o4 o5
  have of1 := un.keep f _ o1 th.no th.nf (by simp)
  refine PySem.W.callWith_F0 ⟨_, _, _, _, of1⟩ (wpAny_call (codeAny_mono (th.run Z.A Z.stack s1 H1 Q' E' hr I1.env0 un hc ht) fun r s' hq => ?_))
  cases r with
  | error e => exact tk e s' (XE.of_call I1 (fun c d H z => hE c d H z) hq)
  | ok fl => cases fl <;> first | exact (fun ⟨v, H', J, rv, z⟩ => ⟨v, H', J, rv, hQ v H' z⟩ : EP Z pins σ Q' _ _ → EP Z pins σ Q _ _) (I1.after hq) | exact False.elim hq in
#guard_msgs (pass all) in open Nat
/-- TT: what it makes of the thunk's reading; it wants j rooms more than the thunk -/
def TkOk (P : Program) (w : World) (K : PySem.W.Frag) (mg : Str → Option Value) (base : Heap) (j : Nat) (g : Addr) (TT : (XK → Hp → VK → Prop) → XK → Hp → VK → Prop) : Prop :=
  ∀ (k : Nat) (A : Around) (outer : List PySem.Env) (s : Shared) (H : Hp) (f c' : Addr) (q : Str) (t : XK → Hp → VK → Prop) (Q : VK) (E : XK), Room (k + j) A → Env0 P w K mg base A outer s H → Thunk P w K mg base k (frs outer) H s f c' q t → H c' = some (CodeO c' q) → TT t E H Q →
    codeAny (model P w) A (.call (.ref g) ⟨[.ref f], []⟩) (CR (L2.CX P w) outer P w H s Q E) s
theorem tk_of {P : Program} {w : World} {K : PySem.W.Frag} {mg : Str → Option Value} {base : Heap} {j : Nat} {x : Str} {params : Arguments} {body : List Stmt} {scope : Scope} {g : Addr} {fd : FuncData} {TT : (XK → Hp → VK → Prop) → XK → Hp → VK → Prop} {N : List Str} {a : Str}
    (F : FunD K x x params body scope [] [] g fd) (S : FnScope N [a] scope) (hb : Binds K fd [a] [])
    (hbody : ∀ (k : Nat) (cdv : Value) (A : Around) (outer : List PySem.Env) (s : Shared) (H : Hp) (f c' : Addr) (q : Str) (t : XK → Hp → VK → Prop) (Q : VK) (E : XK), Room (k + j) (A.deeper (envOfC x scope s.heap.objs.size g cdv)) → Thunk P w K mg base k (frs outer) H s f c' q t → H c' = some (CodeO c' q) → TT t E H Q →
      ∃ u, PSs (cxD P w K mg base N x scope g cdv A outer s H E) body u ∧ u { nx := fun _ H' => Q .non H', rt := Q } (L2.start N [.ref f]) H) : TkOk P w K mg base (j + 1) g TT := by
  intro k A outer s H f c' q t Q E hr e0 th hc h
  obtain ⟨oc, od, dV, kV, doc, pm, an, cdv, ct, osl, rfl, lk, hcd, _, _⟩ := F.ex
  have kin : K.In s.heap := e0.mod.kin.keeps fun b o e => (e0.bs b o e).1
  exact run_ofS (k := k + j) (us := [.ref f]) (vs := [.ref f]) lk hcd S hr e0 (hb s [.ref f] kin rfl) (.cons rfl .nil) rfl fun hr' => hbody k cdv A outer s H f c' q t Q E hr' th hc h in
#guard_msgs (pass all) in open Nat
section
variable (K : PySem.W.Frag) (Wout : WX) (D : Ends)
/-- the ends behind a clause: its name goes -/
def endsN : Option Nat → Ends
  | none => D
  | some i => { nx := fun σ H => D.nx (σ.set i none) H, rt := D.rt, bk := fun σ H => D.bk (σ.set i none) H, ct := fun σ H => D.ct (σ.set i none) H }
def slotN (a : Addr) (σ : L2.St) : Option Nat → L2.St
  | none => σ
  | some i => σ.set i (some (.ref a))
/-- what the clauses wish, one behind another: the class, the name's slot, the suite -/
def wCls : List (Value × Option Nat × (Addr → Value → Option Addr → TS)) → WX
  | [] => Wout
  | (c, oi, ts) :: r => fun cls d σ H => ∃ b, PySem.W.exmOne K cls c = some b ∧ (b = true → ∀ a, H a = none → ts a cls d (endsN D oi) (slotN a σ oi) H) ∧ (b = false → wCls r cls d σ H)
end
/-- a clause's name -/
inductive NameN (X : Cx) : Option Str → Option Nat → Prop
  | no : NameN X none none
  | yes {n : Str} {i : Nat} : X.N[i]? = some n → X.env.kindOf n = some .local → NameN X (some n) (some i)
inductive ClsOk (X : Cx) : List ExceptHandler → List (Value × Option Nat × (Addr → Value → Option Addr → TS)) → Prop
  | nil : ClsOk X [] []
  | cons {x : Str} {c : Value} {on : Option Str} {oi : Option Nat} {ts : Addr → Value → Option Addr → TS} {b0 : Stmt} {su : List Stmt} {p1 p2 : Pos} {hs : List ExceptHandler} {l : List (Value × Option Nat × (Addr → Value → Option Addr → TS))} (hc : Names X x c) (hn : NameN X on oi)
      (hsu : ∀ (a : Addr) (ob : Obj) (cls : Value) (d : Option Addr) (pn : List (Addr × Obj)), Zc cls d ob → (∃ vs, ob.data = .fields vs) → PSs (X.suite a ((a, ob) :: pn)) (b0 :: su) (ts a cls d)) (r : ClsOk X hs l) :
      ClsOk X (.ExceptHandler (some (.Name x p1)) on (b0 :: su) p2 :: hs) ((c, oi, ts) :: l)
section
variable {X : Cx} {body : List Stmt} {h0 : ExceptHandler} {hs : List ExceptHandler} {l : List (Value × Option Nat × (Addr → Value → Option Addr → TS))} {pos : Pos} {tb : WX → TS} {Wout : WX}
/-- behind a suite with a name: the context of the whole statement again -/
theorem suite_end {pins : List (Addr × Obj)} {D : Ends} {a : Addr} {ob : Obj} {i : Nat} {n : Str} {f : Flow} {s6 : Shared} {p2 : Pos} (ok : X.Ok) (hN : X.N.Nodup) (hi : X.N[i]? = some n) (hk : X.env.kindOf n = some .local)
    (h : SP (X.suite a ((a, ob) :: (X.pn ++ pins))) [] (endsN D (some i)) f s6) : wpAny (model X.prog X.w) X.A (do bindName X.env n .none; unbindBehindTheSuite X.env n p2) (fun _ s7 => SP X pins D f s7) X.xe s6 := by
  cases f with
  | ret u => obtain ⟨v, σ6, H6, S6, r6, q6⟩ := h; exact gone_ok (S6.unsuite ok) hN hi hk fun s7 J => ⟨_, _, _, J, r6, q6⟩
  | next => obtain ⟨σ6, H6, S6, q6⟩ := h; exact gone_ok (S6.unsuite ok) hN hi hk fun s7 J => ⟨_, _, J, q6⟩
  | brk => obtain ⟨σ6, H6, S6, q6⟩ := h; exact gone_ok (S6.unsuite ok) hN hi hk fun s7 J => ⟨_, _, J, q6⟩
  | cont => obtain ⟨σ6, H6, S6, q6⟩ := h; exact gone_ok (S6.unsuite ok) hN hi hk fun s7 J => ⟨_, _, J, q6⟩ in
#guard_msgs (pass all) in open Nat
theorem ps_try_cls (hst : X.stack = X.env :: X.outer) (hf : X.env.frame = some X.env.locals) (hN : X.N.Nodup) (tk : Takes X Wout)
    (hb : ∀ (W : WX) (pn : List (Addr × Obj)) (xe : Value → Shared → Prop), Takes (X.tr pn xe) W → PassesOwn (model X.prog X.w) X.A X.env xe → PSs (X.tr pn xe) body (tb W))
    (hh : ClsOk X (h0 :: hs) l) : PS X (.Try body (h0 :: hs) [] [] pos) (fun D σ H => tb (wCls X.K Wout D l) D σ H) := by
  refine ⟨fun pins s σ H D I h => ?_⟩
  have ok := I.ok
  have hfr : X.A.frames = some (X.env :: X.outer) := by rw [ok.frames, hst]
  apply wpAny_Try_except
  let xe' : Value → Shared → Prop := fun e s₁ => wpAny (model X.prog X.w) X.A (noteFrame e X.env) (fun _ s₂ => wpAny (model X.prog X.w) X.A (setFlight e none)
    (fun _ s₃ => wpAny (model X.prog X.w) X.A (handleBy e X.env (h0 :: hs)) (SP X pins D) X.xe s₃) X.xe s₂) X.xe s₁
  have tk' : Takes (X.tr (X.pn ++ pins) xe') (wCls X.K Wout D l) := by
    rintro u s' ⟨a, B, sI, pins', σ', H', cls, d, rfl, J', nb, up, sky, na, os, ag, w⟩
    have J : Inv X pins σ' H' sI := J'.ofTry ok
    have sk : Sky B (X.env :: X.outer) a (Zc cls d) X.env.locals s'.heap := hst ▸ sky
    refine Sky.land Zc.steady hfr hf sk fun h3 fl3 up3 => ?_
    have J3 : Inv X pins σ' H' { s' with heap := h3 } := J.landed nb fl3.1 (up.trans up3) os ag
    obtain ⟨ob3, vs3, hob3, hz3, hd3⟩ := fl3.there
    have nfr : a ∉ frs (X.env :: X.outer) := fun hm => by
      obtain ⟨_, o', e', hnf⟩ := fl3.2.2.1.mem hm
      rw [hob3] at e'; cases e'
      exact hnf _ hd3
    have nL : a ≠ X.env.locals := fun z => nfr (List.mem_filterMap.mpr ⟨X.env, List.mem_cons_self, by rw [hf, z]⟩)
    have nF : a ∉ X.fs := fun hm => by
      obtain ⟨e, he, q⟩ := List.mem_filterMap.mp hm
      exact nfr (List.mem_filterMap.mpr ⟨e, List.mem_cons_of_mem _ he, q⟩)
    have S3 := J3.suite hob3 hd3 na nL nF
    have go : ∀ {hs' : List ExceptHandler} {l' : List (Value × Option Nat × (Addr → Value → Option Addr → TS))}, ClsOk X hs' l' → wCls X.K Wout D l' cls d σ' H' →
        wpAny (model X.prog X.w) X.A (handleBy (.ref a) X.env hs') (SP X pins D) X.xe { s' with heap := h3 } := by
      intro hs' l' hk
      induction hk with
      | nil =>
        intro w
        apply wpAny_handleBy_nil
        obtain ⟨k1, k2, k3, ob, vs, T, oT, ts', hob, hz, hd, h1, hr⟩ := id fl3
        unfold PySem.passOn
        refine wpAny_bind (wpAny_field hob hd h1 ?_)
        rw [if_neg (show ¬ ((Value.ref T == Value.none) = true) from by simp)]
        have fin : wpAny (model X.prog X.w) X.A (setFlight (.ref a) X.env.frame) (fun _ s4 => wpAny (model X.prog X.w) X.A (throw (.ref a) : Sem Flow) (SP X pins D) X.xe s4) X.xe { s' with heap := h3 } := by
          rw [hf]
          refine HandSPX.setFlight_upZ fl3 fun h4 hh4 up4 => wpAny_throw (tk _ _ ⟨a, B, sI, pins, σ', H', cls, d, rfl, J, nb, (up.trans up3).trans up4, ?_, na, os, ag, w⟩)
          rw [hst]; exact .inr (.inr hh4)
        first
          | exact wpAny_bind (wpAny_pure (wpAny_bind fin))
          | exact wpAny_bind fin
      | @cons x c on oi ts b0 su p1 p2 hs2 l2 hc hn hsu r ih =>
        rintro ⟨b, hb1, hyes, hnot⟩
        refine wpAny_handleBy_cons (codeAny_handlers_test ?_) (by intro q; cases q)
        have LT : PySem.W.Looks (model X.prog X.w) h3 (typeOf (.ref a)) cls := fun A Q E s k q => wpAny_typeOf_ref (k _ _ hob3) (by rw [hz3.1]; exact q)
        have LM := PySem.W.exm_one (M := model X.prog X.w) J3.kIn LT hb1
        have test : ∀ {Q E : Value → Shared → Prop}, Q c { s' with heap := h3 } → wpAny (model X.prog X.w) (X.A.mark (some (.ref a))) (eval (.Name x p1) X.env) Q E { s' with heap := h3 } := fun {Q E} q => by
          obtain ⟨hg, hdbg, hm | ⟨hm, hv, hnn⟩⟩ := hc
          · exact ld_glob (X := X.suite a ((a, ob3) :: (X.pn ++ pins))) S3 hg hm q hdbg
          · exact ld_blt (X := X.suite a ((a, ob3) :: (X.pn ++ pins))) S3 hg hm hv q hnn hdbg
        refine test (LM.here ?_)
        cases b with
        | false => exact ih (hnot rfl)
        | true =>
          cases hn with
          | no =>
            apply codeAny_handlers_suite
            refine HandSPX.lands_againZ fl3 fun h4 fl4 up4 => ?_
            have J4 : Inv X pins σ' H' { s' with heap := h4 } := J.landed nb fl4.1 ((up.trans up3).trans up4) os ag
            obtain ⟨ob4, vs4, hob4, hz4, hd4⟩ := fl4.there
            refine wpAny_mono ((hsu a ob4 cls d (X.pn ++ pins) hz4 ⟨_, hd4⟩).run [] _ σ' H' (endsN D none) (J4.suite hob4 hd4 na nL nF) (hyes rfl a na)) (fun f s6 hsp => ?_) (fun _ _ z => False.elim z)
            cases f with
            | ret u => obtain ⟨v, σ6, H6, S6, r6, q6⟩ := hsp; exact ⟨_, _, _, S6.unsuite ok, r6, q6⟩
            | next => obtain ⟨σ6, H6, S6, q6⟩ := hsp; exact ⟨_, _, S6.unsuite ok, q6⟩
            | brk => obtain ⟨σ6, H6, S6, q6⟩ := hsp; exact ⟨_, _, S6.unsuite ok, q6⟩
            | cont => obtain ⟨σ6, H6, S6, q6⟩ := hsp; exact ⟨_, _, S6.unsuite ok, q6⟩
          | yes hi hk =>
            apply codeAny_handlers_suite_as
            refine HandSPX.lands_againZ fl3 fun h4 fl4 up4 => ?_
            have J4 : Inv X pins σ' H' { s' with heap := h4 } := J.landed nb fl4.1 ((up.trans up3).trans up4) os ag
            obtain ⟨ob4, vs4, hob4, hz4, hd4⟩ := fl4.there
            refine store_ok (X := X.suite a ((a, ob4) :: (X.pn ++ pins))) (v := .ref a) (J4.suite hob4 hd4 na nL nF) hN hi (.inl hk) rfl (fun s5 S5 => ?_) (.inr hk)
            refine wpAny_mono ((hsu a ob4 cls d (X.pn ++ pins) hz4 ⟨_, hd4⟩).run [] s5 _ H' (endsN D (some _)) S5 (hyes rfl a na)) (fun f s6 hsp => ?_) (fun _ _ z => False.elim z)
            exact suite_end (D := D) ok hN hi hk hsp
    exact go hh w
  refine wpAny_mono ((hb (wCls X.K Wout D l) (X.pn ++ pins) xe' tk' PassesOwn.looking).run [] s σ H D (I.toTry _) h) (fun f s1 hsp => ?_) (fun e s1 he => he)
  cases f with
  | ret u => obtain ⟨v, σ', H', J', r, q⟩ := hsp; exact ⟨v, σ', H', J'.ofTry ok, r, q⟩
  | brk => obtain ⟨σ', H', J', q⟩ := hsp; exact ⟨σ', H', J'.ofTry ok, q⟩
  | cont => obtain ⟨σ', H', J', q⟩ := hsp; exact ⟨σ', H', J'.ofTry ok, q⟩
  | next => obtain ⟨σ', H', J', q⟩ := hsp; exact wpAny_execs_nil ⟨σ', H', J'.ofTry ok, q⟩ in
#guard_msgs (pass all) in open Nat
end
end DL
namespace DL
open PySem PySem.Spec PyProof.Rows L2 LamX
/-- TT lifted -/
def TkD (K : PySem.W.Frag) (TT : (XK → Hp → VK → Prop) → XK → Hp → VK → Prop) (T : DL.WE → DL.WE) : Prop :=
  ∀ (σ : L2.St) (E : XK) (we : DL.WE) (H : Hp) (Q : VK), lE K (fun cls d _ H => E cls d H) (T we) σ H Q → TT (fun E H' Q' => lE K (fun cls d _ H => E cls d H) we σ H' Q') E H Q
def wLam (p : Addr) (q : Str) (T : DL.WE → DL.WE) (we : DL.WE) : DL.WE := fun ρ cs P Z => look p cs = some (.tbl q) ∧ T we ρ cs P Z
theorem tbl_at {K : PySem.W.Frag} {F G0 H : Hp} {cs : Cs} {p : Addr} {q : Str} (s : Sta K F G0 cs H) (h : look p cs = some (.tbl q)) : ∃ ps, H p = some (.tbl ps) ∧ TabT (pur F cs H) ps q := by
  obtain ⟨o, e, z⟩ := s.look h
  cases o <;> first | exact ⟨_, e, z⟩ | exact z.elim in
#guard_msgs (pass all) in open Nat
theorem TabT.le {H H' : Hp} {ps : Array Value} {q : Str} (t : TabT H ps q) (e : Ex H H') : TabT H' ps q := ⟨t.1, fun pos cv hc => by
  obtain ⟨c, e1, e2⟩ := t.2 pos cv hc
  exact ⟨c, e1, e _ _ e2⟩⟩
theorem sta_lam {K : PySem.W.Frag} {F H H1 : Hp} {cs : Cs} {p c' : Addr} {q : Str} {ps : Array Value} (s : Sta K F (pur F cs H) cs H) (hl : look p cs = some (.tbl q)) (hp : H p = some (.tbl ps)) (t : TabT (pur F cs H) ps q) (h : LamH H p c' q ps H1) :
    Sta K F (pur F cs H) cs H1 ∧ H1 c' = some (CodeO c' q) := by
  cases h with
  | hit e => exact ⟨s, e⟩
  | @new p1 hn hok hin =>
    obtain ⟨s1, e1⟩ := s.new (o := CodeO c' q) hn
    have hpc : p ≠ c' := ne_of_none hp hn
    have s2 := s1.put hl (m' := .tbl q) (o' := .tbl p1) ⟨hok, fun pos cv hc => by
      rcases hin pos cv hc with z | z
      · obtain ⟨c, a1, a2⟩ := t.2 pos cv z
        exact ⟨c, a1, s1.gr _ _ a2⟩
      · exact ⟨c', z, e1⟩⟩
    rw [put_look hl] at s2
    have e2 : upd (upd H c' (CodeO c' q)) p (.tbl p1) = upd (upd H p (.tbl p1)) c' (CodeO c' q) := by
      funext b
      by_cases h1 : b = p
      · subst h1; rw [upd_same, upd_ne hpc, upd_same]
      · by_cases h2 : b = c'
        · subst h2; rw [upd_ne h1, upd_same, upd_same]
        · rw [upd_ne h1, upd_ne h2, upd_ne h2, upd_ne h1]
    rw [e2] at s2
    exact ⟨s2.from_ s1.gr, upd_same⟩ in
#guard_msgs (pass all) in open Nat
section
variable {X : Cx} {W : WX}
theorem d_lam {j k : Nat} {TT : (XK → Hp → VK → Prop) → XK → Hp → VK → Prop} {T : DL.WE → DL.WE} {we : DL.WE} {g c pt : Addr} {q x : Str} {params : Arguments} {body : Expr} {scope : Scope} {p lpos pos : Pos} (tko : TkOk X.prog X.w X.K X.mg X.base j g TT) (td : TkD X.K TT T) (tk : Takes X W) (hr : Room (k + 1 + j) X.A)
    (hg : Gl X x) (hm : X.mg x = some (.ref g)) (hk : PySem.W.keepIn X.K (.ref g) = true) (TB : TabB X.base X.mg c pt) (hcode : X.env.code = .ref c) (L : LamS X.env.scope scope)
    (hbody : ∀ (A : Around) (outer : List PySem.Env) (s : Shared) (H : Hp) (E : XK) (f c' : Addr), Room k (A.deeper (lamEnv X scope s.heap.objs.size f c')) → DE (lamCx X A outer s H E scope f c') (fun cls d _ H => E cls d H) body we)
    (hq : X.env.qual ++ "<lambda>" = q := by rfl) (hdef : defaultsOf params X.env = ([], []) := by rfl)
    (hbind : ∀ (q : Str) (cl : List (Str × Addr)) (pm cv ctv : Value), bindArgs (PySem.W.kla_fn "<lambda>" q params body scope cl pm cv ctv) ⟨[], []⟩ = pure [] := by intros; rfl) (hdb : (x == ("__debug__" : Str)) = false := by decide) :
    DE X W (.Call (.Name x p) [.Lambda params body scope lpos] [] pos) (wLam pt q T we) := by
  refine ⟨fun pins s σ H Q I h => ?_⟩
  obtain ⟨F, cs, ρ, P, Z, st, re, ⟨hl, hw⟩, pe, px⟩ := h
  obtain ⟨ps, ht, tt⟩ := tbl_at st hl
  refine wpAny_Call_Name_kw (ld_glob I hg hm ?_ hdb)
  refine PySem.W.callWith_K (h₀ := X.base) I.ok.mod.kin hk ?_ (by rfl) (by rfl)
  show wpAny _ _ (spliced ((false, eval (.Lambda params body scope lpos) X.env) :: backTo pos (starEach [] X.env))) _ _ s
  refine Calls.spliced_cons (lam_make I TB hcode ht (hq ▸ tt.le pur_le) hdef (L.has I.ok) fun f c' pm ctv H1 s' I1 lh hf hfn hfr => Calls.spliced_nil ⟨I1.kIn, ?_⟩)
  rw [hq] at lh
  obtain ⟨s1, hc⟩ := sta_lam st hl ht tt lh
  have th := lam_thunk (k := k) (t := fun E => lE X.K (fun cls d _ H => E cls d H) we) I1 L hf hfn hfr hbind fun A outer s0 H0 E hr' => hbody A outer s0 H0 E f c' hr'
  have run := tko (k + 1) X.A X.stack s' H1 f c' (X.env.qual ++ "<lambda>") _ Q (L2.WE W σ) hr I1.env0 th (hq ▸ hc) (td σ (L2.WE W σ) we H1 Q ⟨F, cs, ρ, P, Z, s1.self, re.mono s1.gr, hw, pe.le s1.gr, px.le s1.gr⟩)
  refine wpAny_call (codeAny_mono run fun r s2 hq2 => ?_)
  cases r with
  | error e => exact passAt tk σ pins H1 s' e s2 I1 hq2
  | ok fl => cases fl <;> first | exact I1.after hq2 | exact False.elim hq2 in
#guard_msgs (pass all) in open Nat
end
/-- the first clause that takes cls -/
def CaughtBy (K : PySem.W.Frag) (cls : Value) : List Value → Prop
  | [] => False
  | c :: r => ∃ b, PySem.W.exmOne K cls c = some b ∧ (b = false → CaughtBy K cls r)
/-- a caught exception, its field f -/
def FldAt (K : PySem.W.Frag) (f : Str) (cls : Value) (d : Option Addr) (H : Hp) (v : V) : Prop := ∃ (C dd : Addr) (fs : List (Str × V)), cls = .ref C ∧ XfC K C ∧ PySem.W.findIn K (.ref C) f = some none ∧ d = some dd ∧ H dd = some (.xd fs) ∧ fs.lookup f = some v
def retT (K : PySem.W.Frag) (vs : List V) (H : Hp) (Q : VK) : Prop := ∀ p, H p = none → Q (.ref p) (upd H p (.tup vs))
def TTask (K : PySem.W.Frag) (cl : List Value) (t : XK → Hp → VK → Prop) (_ : XK) (H : Hp) (Q : VK) : Prop :=
  ∀ p, H p = none → t (fun cls d H' => CaughtBy K cls cl ∧ ∃ v, FldAt K "called" cls d H' v ∧ retT K [.non, v] H' Q) (upd H p (.tup [.non, .str ""])) fun v H' => retT K [v, .str ""] H' Q
section
variable {P : Program} {w : World} {K : PySem.W.Frag} {mg : Str → Option Value} {base : Heap}
theorem tk_ask {x a to wo e c1 c2 c3 : Str} {params : Arguments} {scope : Scope} {g : Addr} {fd : FuncData} {C1 C2 C3 : Addr} {k1 k2 k3 : Nat} {p1 p2 p3 p4 p5 p6 p7 p8 p9 q1 q2 q3 q4 q5 q6 q7 q8 q9 r1 r2 r3 r4 r5 r6 r7 r8 r9 p10 p11 p12 p13 p14 p15 p16 : Pos} {j1 j2 : Nat}
    (F : FunD K x x params [.Assign [.Tuple [.Name to p1, .Name wo p2] k1 p3] (.Tuple [.Constant .none j1 p4, .Constant (.str "") j2 p5] k2 p6) p7,
      .Try [.Assign [.Name to p8] (.Call (.Name a p9) [] [] p10) p11]
        [.ExceptHandler (some (.Name c1 q1)) (some e) [.Assign [.Name wo q2] (.Attribute (.Name e q3) "called" q4) q5] q6, .ExceptHandler (some (.Name c2 q7)) (some e) [.Assign [.Name wo q8] (.Attribute (.Name e q9) "called" r1) r2] r3,
         .ExceptHandler (some (.Name c3 r4)) (some e) [.Assign [.Name wo r5] (.Attribute (.Name e r6) "called" r7) r8] r9] [] [] p12,
      Stmt.Return (some (.Tuple [.Name to p13, .Name wo p14] k3 p15)) p16] scope [] [] g fd)
    (S : FnScope [a, to, wo, e] [a] scope) (hb : Binds K fd [a] []) (l1 : scope.names.lookup a = some .local) (l2 : scope.names.lookup to = some .local) (l3 : scope.names.lookup wo = some .local) (l4 : scope.names.lookup e = some .local)
    (g1 : scope.names.lookup c1 = some .globalImplicit) (g2 : scope.names.lookup c2 = some .globalImplicit) (g3 : scope.names.lookup c3 = some .globalImplicit) (m1 : mg c1 = some (.ref C1)) (m2 : mg c2 = some (.ref C2)) (m3 : mg c3 = some (.ref C3))
    (hd : ∀ y ∈ [a, to, wo, e, c1, c2, c3], (y == ("__debug__" : Str)) = false ∧ (y == ("__classdict__" : Str)) = false) (hN : [a, to, wo, e].Nodup)
    (hsw : ∀ env : PySem.Env, env.scope = scope → swappedStores [.Tuple [.Name to p1, .Name wo p2] k1 p3] (.Tuple [.Constant .none j1 p4, .Constant (.str "") j2 p5] k2 p6) env = pure none) :
    TkOk P w K mg base 1 g (TTask K [.ref C1, .ref C2, .ref C3]) := by
  refine tk_of (j := 0) F S hb fun k cdv A outer s H f c' q t Q E hr th hc h => ?_
  have d1 := hd a (by simp)
  have suite : ∀ (ob : Obj) (ax : Addr) (cls : Value) (d : Option Addr) (pn : List (Addr × Obj)) (z1 z2 z3 z4 : Pos), Zc cls d ob → (∃ vs, ob.data = .fields vs) →
      PSs ((cxD P w K mg base [a, to, wo, e] x scope g cdv A outer s H E).suite ax ((ax, ob) :: pn)) [.Assign [.Name wo z1] (.Attribute (.Name e z2) "called" z3) z4] (fun D σ H => σ[3]? = some (some (.ref ax)) ∧ ∃ v, FldAt K "called" cls d H v ∧ D.nx (σ.set 2 (some v)) H) := by
    intro ob ax cls d pn z1 z2 z3 z4 hz hf
    refine ⟨fun pins s1 σ1 H1 D I hw => ?_⟩
    obtain ⟨hs3, v, ⟨C, dd, fs, rfl, xf, hno, rfl, hdd, hl⟩, hn⟩ := hw
    refine (pss_one (ps_set (i := 2) hN rfl (.inl l3) (pe_xf xf hno hz hf (pe_var (i := 3) rfl (.inl l4) (hd e (by simp)).1 (hd e (by simp)).2)) (hf := .inr l3))).run pins s1 σ1 H1 D I ?_
    exact ⟨.ref ax, hs3, rfl, rfl, dd, fs, v, rfl, hdd, hl, hn⟩
  refine ⟨_, pss_cons (ps_asg (pe_tup (pa_cons pe_non (pa_cons pe_str pa_nil))) (pg_tup rfl (pgs_cons (pg_name (i := 1) hN rfl (.inl l2) (.inr l2)) (pgs_cons (pg_name (i := 2) hN rfl (.inl l3) (.inr l3)) pgs_nil))) (hw := hsw _ rfl))
    (pss_cons (ps_try_cls rfl rfl hN takesD (fun W pn xe tk _ => pss_one (ps_set (i := 1) hN rfl (.inl l2) (pe_thunk (i := 0) (W := W) th rfl tk (hr.mono (by omega)) rfl (.inl l1) d1.1 d1.2) (hf := .inr l2)))
      (.cons ⟨g1, (hd c1 (by simp)).1, .inl m1⟩ (.yes (i := 3) rfl l4) (fun ax ob cls d pn hz hf => suite ob ax cls d pn _ _ _ _ hz hf)
        (.cons ⟨g2, (hd c2 (by simp)).1, .inl m2⟩ (.yes (i := 3) rfl l4) (fun ax ob cls d pn hz hf => suite ob ax cls d pn _ _ _ _ hz hf)
          (.cons ⟨g3, (hd c3 (by simp)).1, .inl m3⟩ (.yes (i := 3) rfl l4) (fun ax ob cls d pn hz hf => suite ob ax cls d pn _ _ _ _ hz hf) .nil))))
      (pss_one (ps_ret (pe_tup (pa_cons (pe_var (i := 1) rfl (.inl l2) (hd to (by simp)).1 (hd to (by simp)).2) (pa_cons (pe_var (i := 2) rfl (.inl l3) (hd wo (by simp)).1 (hd wo (by simp)).2) pa_nil)))))), ?_⟩
  refine ⟨by decide, fun pt hpt => ⟨pt, [.non, .str ""], rfl, SqT.of upd_same, rfl, .non, [.str ""], rfl, .str "", [], rfl, rfl, ?_⟩⟩
  refine ⟨rfl, by rw [upd_ne (ne_of_none hc hpt)]; exact hc, ?_⟩
  refine ⟨_, _, fun cls d H1 z => ?_, fun v H1 z => ?_, h pt hpt⟩
  · obtain ⟨hcb, v, hfl, hrt⟩ := z
    obtain ⟨b1, e1, f1⟩ := hcb
    refine ⟨b1, e1, fun _ ax _ => ⟨rfl, v, hfl, .non, rfl, v, rfl, small_es (show 2 ≤ 1000 by decide), hrt⟩, fun h1 => ?_⟩
    obtain ⟨b2, e2, f2⟩ := f1 h1
    refine ⟨b2, e2, fun _ ax _ => ⟨rfl, v, hfl, .non, rfl, v, rfl, small_es (show 2 ≤ 1000 by decide), hrt⟩, fun h2 => ?_⟩
    obtain ⟨b3, e3, f3⟩ := f2 h2
    exact ⟨b3, e3, fun _ ax _ => ⟨rfl, v, hfl, .non, rfl, v, rfl, small_es (show 2 ≤ 1000 by decide), hrt⟩, fun h3 => (f3 h3).elim⟩
  · exact ⟨v, rfl, .str "", rfl, small_es (show 2 ≤ 1000 by decide), z⟩ in
#guard_msgs (pass all) in open Nat
end
def TTwhy (K : PySem.W.Frag) (cl : List Value) (t : XK → Hp → VK → Prop) (E : XK) (H : Hp) (Q : VK) : Prop := TTask K cl t E H fun v H' => rIx K v (.int 1) H' Q
theorem tk_call {Z : Cx} {W : WX} {j i k : Nat} {TT : (XK → Hp → VK → Prop) → XK → Hp → VK → Prop} {a x : Str} {f c' g : Addr} {q : Str} {t : XK → Hp → VK → Prop} {p1 p2 p3 : Pos} (tko : TkOk Z.prog Z.w Z.K Z.mg Z.base j g TT) (th : Thunk Z.prog Z.w Z.K Z.mg Z.base k Z.fs Z.H_0 Z.s_0 f c' q t) (hex : Z.ex = []) (tk : Takes Z W) (hr : Room (k + j) Z.A)
    (hst : Z.stack = Z.env :: Z.outer) (hfr : Z.env.frame = some Z.env.locals)
    (hg : Gl Z x) (hm : Z.mg x = some (.ref g)) (hk : PySem.W.keepIn Z.K (.ref g) = true) (hN : Z.N[i]? = some a) (hv : Vis Z.env.scope a) (hd : (a == ("__debug__" : Str)) = false) (hcd : (a == ("__classdict__" : Str)) = false) (hdx : (x == ("__debug__" : Str)) = false)
    (he : starEach [.Name a p1] Z.env = [(false, eval (.Name a p1) Z.env)]) :
    PE Z (.Call (.Name x p2) [.Name a p1] [] p3) (fun σ H Q => σ[i]? = some (some (.ref f)) ∧ H c' = some (CodeO c' q) ∧ TT t (L2.WE W σ) H Q) := by
  refine ⟨fun pins s σ H Q I h => ?_⟩
  obtain ⟨hs, hc, ht⟩ := h
  refine wpAny_Call_Name_kw (ld_glob I hg hm ?_ hdx)
  refine PySem.W.callWith_K (h₀ := Z.base) I.ok.mod.kin hk (thn ((pa_cons (pe_var (pos := p1) (i := i) hN hv hd hcd) pa_nil he).run p3 pins s σ H (fun vs H1 => vs = [.ref f] ∧ H1 = H) I ⟨.ref f, hs, rfl, rfl⟩) fun us s1 ⟨vs, H1, I1, r1, q1⟩ => ⟨I1.kIn, ?_⟩) he (by rfl)
  obtain ⟨rfl, rfl⟩ := q1
  cases r1 with
  | @cons _ u _ us' r1 r2 =>
    cases r2
    obtain rfl : u = Value.ref f := r1
    have un : Un Z.fs [] Z.H_0 H1 Z.s_0.heap s1.heap := hex ▸ I1.base
    obtain ⟨o, fd, o1, o2, o3, o4, o5⟩ := th.obj
    have of1 := un.keep f _ o1 th.no th.nf (by simp)
    have nL : Z.s_0.heap.get? Z.env.locals = none := by
      cases e : Z.s_0.heap.get? Z.env.locals with
      | none => rfl
      | some o => exact absurd (Nat.lt_of_lt_of_le (Heap.lt_size e) I1.ok.above) (Nat.lt_irrefl _)
    have efr : frs Z.stack = Z.env.locals :: Z.fs := by
      rw [hst]
      show List.filterMap _ _ = _
      rw [List.filterMap_cons, hfr] <;> rfl
    have nfL : f ≠ Z.env.locals := fun z => by rw [← z, o1] at nL; cases nL
    have th2 : Thunk Z.prog Z.w Z.K Z.mg Z.base k (frs Z.stack) H1 s1 f c' q t := by
      refine ⟨⟨o, fd, of1, o2, o3, o4, o5⟩, un.free f _ o1 th.no (by simp), ?_, fun A outer s2 H2 Q E hr e0 un2 hc2 ht2 => th.run A outer s2 H2 Q E hr e0 ?_ hc2 ht2⟩
      · rw [efr]
        intro z
        rcases List.mem_cons.mp z with z | z
        · exact nfL z
        · exact th.nf z
      · rw [efr] at un2
        have u1 : Un (Z.env.locals :: Z.fs) [] Z.H_0 H1 Z.s_0.heap s1.heap := un.mono (fun b hb => List.mem_cons_of_mem _ hb) fun b hb => hb
        exact Un.less (u1.trans un2) nL
    have run := tko k Z.A Z.stack s1 H1 f c' q t Q (L2.WE W σ) hr I1.env0 th2 hc ht
    refine wpAny_call (codeAny_mono run fun r s' hq => ?_)
    cases r with
    | error e => exact passAt tk σ pins H1 s1 e s' I1 hq
    | ok fl => cases fl <;> first | exact I1.after hq | exact False.elim hq in
#guard_msgs (pass all) in open Nat
theorem tk_why {P : Program} {w : World} {K : PySem.W.Frag} {mg : Str → Option Value} {base : Heap} {j : Nat} {cl : List Value} {x a y : Str} {params : Arguments} {scope : Scope} {g g2 : Addr} {fd : FuncData} {p1 p2 p3 p4 p5 p6 : Pos} {k1 : Nat} (tko : TkOk P w K mg base j g2 (TTask K cl))
    (F : FunD K x x params [.Return (some (.Subscript (.Call (.Name y p1) [.Name a p2] [] p3) (.Constant (.int 1) k1 p4) p5)) p6] scope [] [] g fd) (S : FnScope [a] [a] scope) (hb : Binds K fd [a] []) (l1 : scope.names.lookup a = some .local) (gy : scope.names.lookup y = some .globalImplicit) (my : mg y = some (.ref g2))
    (ky : PySem.W.keepIn K (.ref g2) = true) (hd : (a == ("__debug__" : Str)) = false) (hcd : (a == ("__classdict__" : Str)) = false) (hdy : (y == ("__debug__" : Str)) = false) : TkOk P w K mg base (j + 1) g (TTwhy K cl) := by
  refine tk_of F S hb fun k cdv A outer s H f c' q t Q E hr th hc h => ?_
  exact ⟨_, pss_one (ps_ret (pe_ix ix_seq (tk_call (Z := cxD P w K mg base [a] x scope g cdv A outer s H E) (W := fun cls d _ H => E cls d H) (i := 0) tko th rfl takesD hr rfl rfl gy my ky rfl (.inl l1) hd hcd hdy (by rfl)) pe_int (by intro _ _; rfl))), rfl, hc, h⟩ in
#guard_msgs (pass all) in open Nat
/-- the exceptions of these names are caught, their text is read -/
def CatchOk (K : PySem.W.Frag) (cl : List Value) (L : List Str) : Prop := ∀ n ∈ L, CaughtBy K (.ref (He.ga K n)) cl ∧ XfC K (He.ga K n) ∧ PySem.W.findIn K (.ref (He.ga K n)) "called" = some none
def tAskD (L : List Str) (we : DL.WE) : DL.WE := fun ρ cs P Z => we ρ cs (fun d cs1 => P (.tup [d, .str ""]) cs1) (fun x cs1 => x.cls ∈ L ∧ ∃ y, x.fs.lookup ("called" : Str) = some y ∧ P (.tup [.non, y]) cs1)
def tWhyD (L : List Str) (we : DL.WE) : DL.WE := fun ρ cs P Z => we ρ cs (fun d cs1 => P (.str "") cs1) (fun x cs1 => x.cls ∈ L ∧ ∃ y, x.fs.lookup ("called" : Str) = some y ∧ P y cs1)
theorem td_ask {K : PySem.W.Frag} {cl : List Value} {L : List Str} (hL : CatchOk K cl L) : TkD K (TTask K cl) (tAskD L) := by
  intro σ E we H Q ⟨F, cs, ρ, P, Z, st, re, hw, pe, px⟩ p hp
  obtain ⟨s1, _⟩ := st.new (o := .tup [.non, .str ""]) hp
  have back : ∀ (H2 : Hp) (cs2 : Cs) (vs : List V) (ds : List D), Sta K F (pur F cs (upd H p (.tup [.non, .str ""]))) cs2 H2 → RepL K (pur F cs2 H2) vs ds → P (.tup ds) cs2 → retT K vs H2 Q := fun H2 cs2 vs ds s2 r2 h2 p2 hp2 => by
    obtain ⟨s3, e3⟩ := s2.new (o := .tup vs) hp2
    exact pe _ cs2 _ _ (s3.from_ (s1.gr.trans s2.gr)) (.tup (SqT.of e3) (r2.mono s3.gr)) h2
  refine ⟨F, cs, ρ, _, _, s1.self, re.mono s1.gr, hw, fun H2 cs2 v d s2 r2 h2 => back H2 cs2 _ _ s2 (.cons r2 (.cons (.str _) .nil)) h2, fun H2 cs2 x d s2 r2 h2 => ?_⟩
  obtain ⟨hx, y, hy, hp2⟩ := h2
  obtain ⟨h1, h3, h4⟩ := hL _ hx
  obtain ⟨dd, xs, rfl, e2, rx⟩ := r2
  obtain ⟨v, hv, rv⟩ := rx.get hy
  exact ⟨h1, v, ⟨_, dd, xs, rfl, h3, h4, rfl, pur_le _ _ e2, hv⟩, back H2 cs2 _ _ s2 (.cons .non (.cons rv .nil)) hp2⟩ in
#guard_msgs (pass all) in open Nat
theorem td_why {K : PySem.W.Frag} {cl : List Value} {L : List Str} (hL : CatchOk K cl L) : TkD K (TTwhy K cl) (tWhyD L) := by
  intro σ E we H Q ⟨F, cs, ρ, P, Z, st, re, hw, pe, px⟩
  refine td_ask hL σ E we H _ ⟨F, cs, ρ, (fun d cs2 => ∃ a b, d = .tup [a, b] ∧ P b cs2), Z, st, re, ?_, ?_, px⟩
  · have e1 : (fun d cs1 => P (.str "") cs1) = fun (d : D) (cs1 : Cs) => P (.str "") cs1 := rfl
    show we ρ cs (fun d cs1 => ∃ a b, D.tup [d, .str ""] = .tup [a, b] ∧ P b cs1) (fun x cs1 => x.cls ∈ L ∧ ∃ y, x.fs.lookup ("called" : Str) = some y ∧ ∃ a b, D.tup [.non, y] = .tup [a, b] ∧ P b cs1)
    have q1 : (fun d cs1 => ∃ a b, D.tup [d, .str ""] = .tup [a, b] ∧ P b cs1) = fun (d : D) (cs1 : Cs) => P (.str "") cs1 := by
      funext d cs1
      exact propext ⟨fun ⟨a, b, e, h⟩ => by cases e; exact h, fun h => ⟨_, _, rfl, h⟩⟩
    have q2 : (fun (x : Exn) cs1 => x.cls ∈ L ∧ ∃ y, x.fs.lookup ("called" : Str) = some y ∧ ∃ a b, D.tup [.non, y] = .tup [a, b] ∧ P b cs1) = fun (x : Exn) (cs1 : Cs) => x.cls ∈ L ∧ ∃ y, x.fs.lookup ("called" : Str) = some y ∧ P y cs1 := by
      funext x cs1
      exact propext ⟨fun ⟨h1, y, h2, a, b, e, h⟩ => by cases e; exact ⟨h1, _, h2, h⟩, fun ⟨h1, y, h2, h⟩ => ⟨h1, y, h2, _, _, rfl, h⟩⟩
    rw [q1, q2]
    exact hw
  · intro H2 cs2 v d s2 r2 ⟨a, b, ed, hp⟩
    subst ed
    cases r2 with
    | tup h r =>
      obtain ⟨u, hu, ru⟩ := r.atI (i := 1) (d := b) rfl
      exact .inr (.inl ⟨_, _, 1, u, rfl, rfl, ex_t pur_le h, hu, pe H2 cs2 u b s2 ru hp⟩) in
#guard_msgs (pass all) in open Nat
theorem r_lam {p : Addr} {q : Str} {T : DL.WE → DL.WE} {we : DL.WE} {ρ : DL.Env} {cs : Cs} {P : DP} {Z : XZ} (hl : look p cs = some (.tbl q)) (h : T we ρ cs P Z) : wLam p q T we ρ cs P Z := ⟨hl, h⟩
end DL
namespace DL
open PySem PySem.Spec PyProof.Rows L2 LamX ClX
theorem oexB_ok {K : PySem.W.Frag} {b : XB} {C : Addr} (h : oexB K b C = true) : OxC K b C := by
  obtain ⟨h1, h⟩ := Bool.and_eq_true_iff.mp h
  obtain ⟨h2, h⟩ := Bool.and_eq_true_iff.mp h
  obtain ⟨h3, h⟩ := Bool.and_eq_true_iff.mp h
  obtain ⟨h4, h5⟩ := Bool.and_eq_true_iff.mp h
  refine ⟨?_, of_decide_eq_true h2, of_decide_eq_true h3, of_decide_eq_true h4, h5⟩
  split at h1
  · rename_i c dd cd sl hl
    obtain ⟨e1, h1⟩ := Bool.and_eq_true_iff.mp h1
    obtain ⟨e2, h1⟩ := Bool.and_eq_true_iff.mp h1
    obtain ⟨e3, h1⟩ := Bool.and_eq_true_iff.mp h1
    split at h1
    · rename_i C' bm a0 a1 a2 a3 n a5 em es
      obtain ⟨e4, h1⟩ := Bool.and_eq_true_iff.mp h1
      obtain ⟨e5, e6⟩ := Bool.and_eq_true_iff.mp h1
      have q1 := of_decide_eq_true e1
      have q4 := of_decide_eq_true e4
      have q5 := of_decide_eq_true e5
      subst q1 q4 q5
      obtain ⟨nm, bs, mro, ns, qn, hd, sn, sub, ab, col, del⟩ := cd
      dsimp only at em e2 e3
      have q3 : del = false := by cases del <;> first | rfl | cases e3
      subst em e2 q3
      have esl : sl = #[a0, a1, a2, a3, some (.builtin b.new), a5] := by
        obtain ⟨l⟩ := sl
        simp only at es
        rw [es]
      subst esl
      exact ⟨nm, qn, ns, bs, bm, sn, sub, ab, col, dd, a0, a1, a2, a3, a5, hl, e6⟩
    · cases h1
  · cases h1 in
#guard_msgs (pass all) in open Nat
theorem xcB_ok {K : PySem.W.Frag} {b : XB} {C : Addr} (h : xcB K b C = true) : XcC K b C := by
  obtain ⟨h1, h⟩ := Bool.and_eq_true_iff.mp h
  obtain ⟨h2, h⟩ := Bool.and_eq_true_iff.mp h
  obtain ⟨h3, h⟩ := Bool.and_eq_true_iff.mp h
  obtain ⟨h4, h⟩ := Bool.and_eq_true_iff.mp h
  obtain ⟨h5, h6⟩ := Bool.and_eq_true_iff.mp h
  exact ⟨oexB_ok h1, xfB_ok h2, of_decide_eq_true h3, of_decide_eq_true h4, of_decide_eq_true h5, of_decide_eq_true h6⟩ in
#guard_msgs (pass all) in open Nat
/-- an own exception of the name n, its __init__ -/
structure XClass (K : PySem.W.Frag) (b : XB) (n : Str) : Prop where
  x : XcC K b (He.ga K n)
  ini : PySem.W.findIn K (.ref (He.ga K n)) "__init__" = some (some (.ref (iniA K n)))
  ty : PySem.W.typeIn K (.ref (iniA K n)) = some (.type "function")
  rd : CRead K (He.ga K n) (.type "type")
  vl : CVal K (He.ga K n) (.type "type") "__init__" (.ref (iniA K n)) (.ref (iniA K n))
theorem cfB_ok {K : PySem.W.Frag} {C : Addr} {m : Str} {u : Value} (h : cfB K C m u = true) : PySem.W.findCls K (.ref C) (.type "type") m = some (.val u) := by
  unfold cfB at h
  split at h
  · rename_i v e
    rw [e, of_decide_eq_true h]
  · cases h in
#guard_msgs (pass all) in open Nat
theorem xclassB_ok {K : PySem.W.Frag} {b : XB} {n : Str} (h : xclassB K b n = true) : XClass K b n := by
  obtain ⟨h1, h⟩ := Bool.and_eq_true_iff.mp h
  obtain ⟨h2, h⟩ := Bool.and_eq_true_iff.mp h
  obtain ⟨h3, h⟩ := Bool.and_eq_true_iff.mp h
  obtain ⟨h4, h⟩ := Bool.and_eq_true_iff.mp h
  obtain ⟨h5, h6⟩ := Bool.and_eq_true_iff.mp h
  exact ⟨xcB_ok h1, of_decide_eq_true h2, of_decide_eq_true h3, ⟨h4, of_decide_eq_true h5⟩, ⟨cfB_ok h6, rfl⟩⟩ in
#guard_msgs (pass all) in open Nat
theorem caughtB_ok {K : PySem.W.Frag} {n : Str} : ∀ {cl : List Str}, caughtB K n cl = true → CaughtBy K (.ref (He.ga K n)) (cl.map fun c => .ref (He.ga K c))
  | [], h => by cases h
  | c :: r, h => by
    unfold caughtB at h
    split at h
    · rename_i e
      exact ⟨true, e, fun z => by cases z⟩
    · rename_i e
      exact ⟨false, e, fun _ => caughtB_ok h⟩
    · cases h
theorem catch_ok {K : PySem.W.Frag} {cl L : List Str} (h : (L.all fun n => caughtB K n cl && (xfB K (He.ga K n) && noAt K (He.ga K n) "called")) = true) : CatchOk K (cl.map fun c => .ref (He.ga K c)) L := fun n hn => by
  obtain ⟨h1, h2⟩ := Bool.and_eq_true_iff.mp (List.all_eq_true.mp h n hn)
  obtain ⟨h3, h4⟩ := Bool.and_eq_true_iff.mp h2
  exact ⟨caughtB_ok h1, xfB_ok h3, of_decide_eq_true h4⟩
def exn (n : Str) : Exn := ⟨n, [("called", .str n)]⟩
def g0V (n : Str) : List V → List (Str × V) := fun _ => [("called", .str n)]
def g0 (n : Str) : List D → List (Str × D) := fun _ => [("called", .str n)]
theorem fld0 {K : PySem.W.Frag} {n : Str} : FldOk K (g0V n) (g0 n) := fun G vs ds r => .cons rfl (.str _) .nil
/-- an exception with a field -/
def exnF (n fl : Str) (d : D) : Exn := ⟨n, [(fl, d), ("called", .str n)]⟩
def g1V (n fl : Str) : List V → List (Str × V) := fun ws => [(fl, ws.getD 0 .non), ("called", .str n)]
def g1 (n fl : Str) : List D → List (Str × D) := fun ds => [(fl, ds.getD 0 .non), ("called", .str n)]
theorem fld1 {K : PySem.W.Frag} {n fl : Str} (hf : fl ≠ "called") : FldOk K (g1V n fl) (g1 n fl) := fun G vs ds r => by
  have r0 : Rep K G (vs.getD 0 .non) (ds.getD 0 .non) := by
    cases r with
    | nil => exact .non
    | cons h _ => exact h
  have e : (("called" : Str) == fl) = false := beq_false_of_ne (Ne.symm hf)
  refine .cons (by simp [g1V, List.lookup]) r0 (.cons (v := .str n) ?_ (.str _) .nil)
  simp [g1V, List.lookup, e] in
#guard_msgs (pass all) in open Nat
theorem r_raise1 {n fl : Str} {we : DL.WE} {f : Fin} {ρ : DL.Env} {cs : Cs} (h : we ρ cs (fun d cs1 => f.ex (exnF n fl d) ρ cs1) (fun x cs1 => f.ex x ρ cs1)) : sRaise n (fun ds => g1 n fl (ds ++ [])) (wCons we wNil) f ρ cs := h
theorem r_raiseD {n fl : Str} {i : Int} {f : Fin} {ρ : DL.Env} {cs : Cs} (h : f.ex (exnF n fl (.int i)) ρ cs) : sRaise n (fun ds => g1 n fl (ds ++ [.int i])) wNil f ρ cs := h
theorem r_raise {n : Str} {f : Fin} {ρ : DL.Env} {cs : Cs} (h : f.ex (exn n) ρ cs) : sRaise n (fun ds => g0 n (ds ++ [])) wNil f ρ cs := h
theorem ok_defC {P : Program} {w : World} {K : PySem.W.Frag} {mg : Str → Option Value} {base : Heap} {x qual : Str} {params : Arguments} {body : List Stmt} {scope : Scope} {dvs : List V} {kws : List (Str × V)} {f c : Addr} {fd : FuncData} {N ps : List Str} {k : Nat} {sp : DSp} (F : FunD K x qual params body scope dvs kws f fd) (hcd : fd.code = .ref c) (S : FnScope N ps scope) {u : DL.WS}
    (hb : ∀ (A : Around) (outer : List PySem.Env) (s : Shared) (H : Hp) (E : XK), Room k (A.deeper (envOfC qual scope s.heap.objs.size f (.ref c))) → DSs (cxD P w K mg base N qual scope f (.ref c) A outer s H E) (fun cls d _ H => E cls d H) body u)
    (hsp : ∀ ds cs Q Z, sp ds cs Q Z → ds.length = ps.length → u (finD Q Z) (startD N ds) cs) : FnOk P w K mg base (L2.CX P w) (k + 1) f fd ps (spL K ps.length sp) := by
  obtain ⟨oc, od, dV, kV, doc, pm, an, cdv, ct, osl, rfl, lk, hc2, h4, h5⟩ := F.ex
  have e : cdv = .ref c := hcd
  subst e
  refine fn_of lk hc2 S spL_len fun A outer s H vs Q E hr h => ?_
  obtain ⟨F0, cs, ds, Pd, Z, st, r, l, hs, pe, px⟩ := h
  refine ⟨_, hb A outer s H E hr, F0, cs, startD N ds, finD Pd Z, st, ?_, hsp ds cs Pd Z hs l, ⟨fun H' cs' σ' ρ' s' _ h' => pe H' cs' .non .non s' .non h', fun _ _ _ _ _ _ h => h.elim, fun _ _ _ _ _ _ h => h.elim, pe, fun H' cs' σ' ρ' x d s' _ r' h' => px H' cs' x d s' r' h'⟩⟩
  unfold startD L2.start
  rw [r.length]
  exact RepE.start _ r in
#guard_msgs (pass all) in open Nat
theorem takesL {X : Cx} {A : Around} {outer : List PySem.Env} {s : Shared} {H : Hp} {E : XK} {scope : Scope} {f c' : Addr} : Takes (lamCx X A outer s H E scope f c') (fun cls d _ H => E cls d H) := takes_of rfl rfl rfl rfl
abbrev tabA (K : PySem.W.Frag) (n : Str) : Addr := (He.cT K (n, none)).2
def sp_lawT (tb : Cs) : DSp := fun ds cs P _ => ∃ ns : List Int, ds = [.lst (ns.map D.int)] ∧ ns.length ≤ 63 ∧ cs = tb ∧ ∀ cs', P (.bl true) cs'
def tbls (ts : List (Addr × Str)) : Cs := ts.map fun p => (p.1, .tbl p.2)
theorem law_startT {K : PySem.W.Frag} {H : Hp} {a : Addr} {ns : List Int} {ts : List (Addr × Str)} (nd : (ts.map (·.1)).Nodup) (hT : ∀ p ∈ ts, H p.1 = some (.tbl #[])) (hl : ns.length ≤ 63) (hS : SqL K H a (ns.map V.int)) :
    (fun (vs : List V) (H : Hp) (Q : VK) (_ : XK) => spL K 1 (sp_lawT (tbls ts)) vs H Q fun _ _ _ => False) [.ref a] H (fun v _ => v = .bl true) (fun _ _ _ => False) := by
  have ea : adr (tbls ts) = ts.map (·.1) := by unfold adr tbls; rw [List.map_map]; rfl
  refine ⟨fun _ => none, tbls ts, [.lst (ns.map D.int)], fun d _ => d = .bl true, fun _ _ => False, ⟨fun _ _ h => (nomatch h), Ex.refl _, ea ▸ nd, fun _ _ => rfl, fun b m hm => ?_, fun _ _ h => (nomatch h)⟩, ?_, rfl, ⟨ns, rfl, hl, rfl, fun _ => rfl⟩, ?_, fun _ _ _ _ _ _ h => h⟩
  · obtain ⟨p, hp, e⟩ := List.mem_map.mp hm
    cases e
    refine ⟨_, hT p hp, ⟨True.intro, fun pos cv hc => ?_⟩⟩
    have z : codeAmong pos [] = some cv := hc
    simp [codeAmong] at z
  · have hna : ∀ u : HO, (∀ ps, u ≠ .tbl ps) → H a = some u → pur (fun _ => none) (tbls ts) H a = some u := fun u hu e => by
      rw [pur_at rfl, e]
      rw [ea]
      intro z
      obtain ⟨p, hp, e2⟩ := List.mem_map.mp z
      have e3 : p.1 = a := e2
      rw [← e3, hT p hp] at e
      exact hu _ (Option.some.inj e).symm
    refine .cons (.lst ?_ (RepL.ofInts ns)) .nil
    rcases hS with (h | ⟨o, h⟩) | h
    · exact .inl (.inl (hna _ (fun ps z => by cases z) h))
    · exact .inl (.inr ⟨o, hna _ (fun ps z => by cases z) h⟩)
    · exact .inr h
  · intro H' cs' v d s r e
    subst e
    cases r
    rfl in
#guard_msgs (pass all) in open Nat
end DL
namespace DL
open PySem PySem.Spec PyProof.Rows L2 LamX
theorem code_of {K : PySem.W.Frag} {n : Str} {x qual : Str} {params : Arguments} {body : List Stmt} {scope : Scope} {dvs : List V} {kws : List (Str × V)} {fd : FuncData} (F : FunD K x qual params body scope dvs kws (He.ga K n) fd) : fd.code = .ref (He.cT K (n, none)).1 := by
  obtain ⟨oc, od, dV, kV, doc, pm, an, cdv, ct, osl, rfl, lk, hc2, h4, h5⟩ := F.ex
  obtain ⟨c, rfl⟩ := He.codeIn_ref hc2
  have e := He.codeOf_eq (p := (n, none)) lk rfl
  show Value.ref c = _
  exact congrArg Value.ref e.symm in
#guard_msgs (pass all) in open Nat
theorem fd_same {K : PySem.W.Frag} {f : Addr} {x x' qual qual' : Str} {params params' : Arguments} {body body' : List Stmt} {scope scope' : Scope} {dvs dvs' : List V} {kws kws' : List (Str × V)} {fd fd' : FuncData} (F : FunD K x qual params body scope dvs kws f fd) (F' : FunD K x' qual' params' body' scope' dvs' kws' f fd') : fd = fd' := by
  obtain ⟨_, _, _, _, _, _, _, _, _, _, _, lk, _⟩ := F.ex
  obtain ⟨_, _, _, _, _, _, _, _, _, _, _, lk', _⟩ := F'.ex
  rw [lk] at lk'
  injection lk' with e
  injection e with _ _ e
  injection e in
#guard_msgs (pass all) in open Nat
end DL
namespace DL
open PySem PySem.Spec PyProof.Rows L2
theorem look_ne {p q : Addr} {cs : Cs} {m : MO} (h : look q cs = some m) (hp : p ∉ adr cs) : q ≠ p := fun e => hp (by
  subst e
  exact List.mem_map.mpr ⟨_, look_mem h, rfl⟩)
theorem look_cons_ne {p q : Addr} {cs : Cs} {b : MO} (h : q ≠ p) : look q ((p, b) :: cs) = look q cs := by
  show (if p = q then some b else look q cs) = look q cs
  rw [if_neg (fun z => h z.symm)] in
#guard_msgs (pass all) in open Nat
theorem r_eqSs {cs : Cs} {P : DP} {x : Str} (h : P (.bl true) cs) : oEq (.str x) (.str x) cs P := ⟨rfl, rfl, by rw [show eqD (.str x) (.str x) = true from by simp [eqD]]; exact h⟩
theorem r_neSs {cs : Cs} {P : DP} {x : Str} (h : P (.bl false) cs) : oNe (.str x) (.str x) cs P := ⟨rfl, rfl, by rw [show eqD (.str x) (.str x) = true from by simp [eqD]]; exact h⟩
theorem tb_step {p q : Addr} {c c' : Cs} {m : MO} (a : BagStep p c c') (h : q ≠ p) (e : look q c = some m) : look q c' = some m := (a.look h).trans e
theorem tb_cons {p q : Addr} {c : Cs} {b m : MO} (h : q ≠ p) (e : look q c = some m) : look q ((p, b) :: c) = some m := (look_cons_ne h).trans e
theorem tb_put {p q : Addr} {c : Cs} {b m : MO} (h : q ≠ p) (e : look q c = some m) : look q (put p b c) = some m := (look_put_ne h).trans e
section
variable {L : List Str} {we : DL.WE} {ρ : DL.Env} {cs : Cs} {P : DP} {Z : XZ}
theorem r_ask (h : we ρ cs (fun d cs1 => P (.tup [d, .str ""]) cs1) (fun x cs1 => x.cls ∈ L ∧ ∃ y, x.fs.lookup ("called" : Str) = some y ∧ P (.tup [.non, y]) cs1)) : tAskD L we ρ cs P Z := h
theorem r_why (h : we ρ cs (fun d cs1 => P (.str "") cs1) (fun x cs1 => x.cls ∈ L ∧ ∃ y, x.fs.lookup ("called" : Str) = some y ∧ P y cs1)) : tWhyD L we ρ cs P Z := h
end
end DL
namespace DL
open PySem PySem.Spec PyProof.Rows L2 LamX
/-- the names of such a lambda: N are the maker's; its own ones are others -/
structure LamT (N : List Str) (sc scope : Scope) : Prop where
  kind : scope.kind = .function
  co : scope.isCoroutine = false
  gen : scope.isGenerator = false
  own : ∀ y ∈ scope.names, y.2 ≠ .cell ∧ (y.2 = .local → y.1 ∉ N)
  free : ∀ y ∈ scope.names, y.2 = .free → sc.names.lookup y.1 = some .cell ∨ sc.names.lookup y.1 = some .free
def lamTB (N : List Str) (sc scope : Scope) : Bool := decide (scope.kind = .function) && (!scope.isCoroutine && (!scope.isGenerator && scope.names.all fun y =>
  !decide (y.2 = .cell) && ((!decide (y.2 = .local) || !N.contains y.1) && (!decide (y.2 = .free) || (decide (sc.names.lookup y.1 = some .cell) || decide (sc.names.lookup y.1 = some .free))))))
theorem lamT_by {N : List Str} {sc scope : Scope} (h : lamTB N sc scope = true) : LamT N sc scope := by
  unfold lamTB at h
  simp only [Bool.and_eq_true, Bool.or_eq_true, Bool.not_eq_true', decide_eq_true_eq, decide_eq_false_iff_not, List.all_eq_true] at h
  obtain ⟨a1, a2, a3, a4⟩ := h
  refine ⟨a1, a2, a3, fun y hy => ⟨(a4 y hy).1, fun e hm => ?_⟩, fun y hy e => ?_⟩
  · rcases (a4 y hy).2.1 with z | z
    · exact z e
    · have : N.contains y.1 = true := by simpa using hm
      rw [this] at z; cases z
  · rcases (a4 y hy).2.2 with z | z
    · exact absurd e z
    · exact z in
#guard_msgs (pass all) in open Nat
/-- the object of such a lambda, its defaults at T -/
abbrev lamOD (X : Cx) (params : Arguments) (body : Expr) (scope : Scope) (T : Addr) (doc pm ctv : Value) (c' : Addr) : Obj :=
  PySem.W.kdv_obj "<lambda>" (X.env.qual ++ "<lambda>") params (.expr body) scope (cloFrom X.env.cells scope.names []) (.ref T) doc pm c' ctv
section
variable {X : Cx} {pins : List (Addr × Obj)} {σ : L2.St} {H : Hp} {s : Shared}
theorem lam_makeD {c P : Addr} {ps : Array Value} {params : Arguments} {body : Expr} {scope : Scope} {pos : Pos} {Q : Value → Shared → Prop} {i0 : Int} {j0 : Nat} {p0 : Pos} (I : Inv X pins σ H s) (TB : TabB X.base X.mg c P) (hcode : X.env.code = .ref c)
    (hP : H P = some (.tbl ps)) (hT : TabT H ps (X.env.qual ++ "<lambda>")) (hdf : params.defaults = [.Constant (.int i0) j0 p0]) (hkd : params.kw_defaults = []) (hfree : ∀ y ∈ scope.names, y.2 = .free → ∃ c, X.env.cells.lookup y.1 = some c)
    (h : ∀ (f c' T : Addr) (dv doc pm ctv : Value) (H1 : Hp) (s' : Shared), Inv X pins σ H1 s' → LamH H P c' (X.env.qual ++ "<lambda>") ps H1 → s'.heap.get? f = some (lamOD X params body scope T doc pm ctv c') → H1 f = none → f ∉ frs X.stack →
      s'.heap.get? T = some (PySem.W.kdv_tup [dv]) → H1 T = none → T ∉ frs X.stack → Q (.ref f) s') :
    wpAny (model X.prog X.w) X.A (eval (.Lambda params body scope pos) X.env) Q X.xe s := by
  obtain ⟨tOk, tIn⟩ := hT
  refine PySem.W.kdv_lam (by rw [hdf] <;> rfl) hkd ?_
  rw [hdf]
  refine PySem.W.kdv_all1 (wpAny_mono ((pe_int (X := X) (i := i0)).run pins s σ H (fun v H1 => v = .int i0 ∧ H1 = H) I ⟨rfl, rfl⟩) (fun dv s1 hh => ?_) fun e s1 z => ?_)
  · obtain ⟨v, H1, I1, rv, ev, eH⟩ := hh
    subst ev
    rw [eH] at I1
    refine PySem.W.kdv_all0 ?_
    rw [makeFunction_eq]
    simp only [List.zip_nil_right, List.filterMap_nil, List.isEmpty_nil, List.isEmpty_cons, Bool.false_eq_true, if_true, if_false, pure_bind]
    refine wpAny_bind (wpAny_newTextTuple ?_)
    obtain ⟨T, eT⟩ : ∃ T, T = s1.heap.objs.size := ⟨_, rfl⟩
    rw [← eT]
    have kp : ∀ b o, s1.heap.get? b = some o → (s1.heap.push (PySem.W.kdv_tup [dv])).get? b = some o := fun b o e => Heap.get?_push_of_some _ e
    have I2 : Inv X pins σ H { s1 with heap := s1.heap.push (PySem.W.kdv_tup [dv]) } := I1.kept (t' := s1.toks) kp
    have oT : (s1.heap.push (PySem.W.kdv_tup [dv])).get? T = some (PySem.W.kdv_tup [dv]) := by rw [eT]; exact Heap.get?_push_size _ rfl
    have nT : H T = none := by rw [eT]; exact I1.hok.fresh (Nat.le_refl _)
    have far : ∀ (s2 : Shared) (_ : Inv X pins σ H s2) (b : Addr), s2.heap.objs.size ≤ b → b ∉ frs X.stack := fun s2 J b le z => by
      rcases List.mem_cons.mp (J.stkSub _ z) with e | e
      · exact Nat.lt_irrefl _ (Nat.lt_of_lt_of_le (e ▸ J.lt) le)
      · exact J.nofs le e
    have fT : T ∉ frs X.stack := by rw [eT]; exact far s1 I1 _ (Nat.le_refl _)
    generalize hs2 : ({ s1 with heap := s1.heap.push (PySem.W.kdv_tup [dv]) } : Shared) = s2 at I2
    have oT2 : s2.heap.get? T = some (PySem.W.kdv_tup [dv]) := by rw [← hs2]; exact oT
    have kB : s2.heap.BuiltinsAt X.mg P := TB.bm.keeps I2.bk
    have kC := TB.code.keeps I2.bk
    have kG := I2.mod.glob.keeps I2.bk
    have obP : s2.heap.get? P = some { cls := .none, data := .fields ps } := I2.hok P _ hP
    have nTP : T ≠ P := fun z => by rw [z, hP] at nT; cases nT
    rcases hc : codeAmong pos ps.toList with _ | cv
    · apply PySem.W.kdv_makeTail (mg := X.mg) (c := c) (P := P) (ps := ps) (closure_ok hfree) I2.ok.glob kG hcode kC obP tOk hc TB.gP kB
      intro c' ctv doc h' tk ext cge clt crec tab
      obtain ⟨c2, oc, fvs, t, e2, hoc, hd, hv⟩ := crec
      cases e2
      have nc : H c' = none := I2.hok.fresh cge
      have le : s2.heap.objs.size ≤ h'.objs.size := Nat.le_trans cge (Nat.le_of_lt clt)
      have J := inv_table (t' := tk) (q := X.env.qual ++ "<lambda>") (more := #[rawInt pos.line, rawInt pos.col, .ref c']) (h' := h'.push (lamOD X params body scope T doc ((X.mg "__name__").getD .none) ctv c')) I2 hP
        (fun b o hb e => Heap.get?_push_of_some _ (ext b o hb e)) (Heap.get?_push_of_some _ tab) cge ⟨oc, fvs, t, Heap.get?_push_of_some _ hoc, hd, hv⟩
      have eL : (ps ++ #[rawInt pos.line, rawInt pos.col, .ref c']).toList = ps.toList ++ [rawInt pos.line, rawInt pos.col, .ref c'] := by simp
      have up : ∀ b, b ≠ c' → b ≠ P → H b = none → upd (upd H P (.tbl (ps ++ #[rawInt pos.line, rawInt pos.col, .ref c']))) c' (CodeO c' (X.env.qual ++ "<lambda>")) b = none := fun b h1 h2 h3 => by rw [upd_ne h1, upd_ne h2]; exact h3
      refine h h'.objs.size c' T dv doc _ ctv _ _ J (.new nc ?_ fun p' cv z => ?_) (Heap.get?_push_size _ rfl) (up _ (Nat.ne_of_gt clt) (Nat.ne_of_gt (Nat.lt_of_lt_of_le (Heap.lt_size obP) le)) (I2.hok.fresh le)) (far s2 I2 _ le)
        (Heap.get?_push_of_some _ (ext T _ nTP oT2)) (up _ (Nat.ne_of_lt (Nat.lt_of_lt_of_le (Heap.lt_size oT2) cge)) nTP nT) fT
      · rw [eL]; exact PySem.TriplesOk_snoc _ _ _ _ tOk
      · rw [eL] at z; exact among_app _ tOk z
    · obtain ⟨c', rfl, hco⟩ := tIn pos cv hc
      apply PySem.W.kdv_makeTailHit (mg := X.mg) (c := c) (P := P) (ps := ps) (closure_ok hfree) I2.ok.glob kG hcode kC obP tOk hc kB
      intro ctv doc h' tk ext le
      exact h h'.objs.size c' T dv doc _ ctv H _ (I2.kept (t' := tk) fun b o e => Heap.get?_push_of_some _ (ext b o e)) (.hit hco) (Heap.get?_push_size _ rfl) (I2.hok.fresh le) (far s2 I2 _ le)
        (Heap.get?_push_of_some _ (ext _ _ oT2)) nT fT
  · exact z in
#guard_msgs (pass all) in open Nat
end
theorem LamT.has {X : Cx} {scope : Scope} (L : LamT X.N X.env.scope scope) (ok : X.Ok) : ∀ y ∈ scope.names, y.2 = .free → ∃ c, X.env.cells.lookup y.1 = some c := fun y hy e =>
  (L.free y hy e).elim (fun k => ok.has _ (.inl k)) fun k => ok.has _ (.inr k)
section
variable {X : Cx} {pins : List (Addr × Obj)} {σ : L2.St} {H HZ : Hp} {s s1 : Shared}
/-- the lambda's body begins: binds are its own names -/
theorem lam_startD {A : Around} {outer : List PySem.Env} {E : XK} {scope : Scope} {f c' : Addr} {h1 : Heap} {tk : Nat} {mo : Str → Option Value} (I : Inv X pins σ H s) (L : LamT X.N X.env.scope scope) (e0 : Env0 X.prog X.w X.K X.mg X.base A outer s1 HZ) (hd : A.handled = none)
    (un : Un (frs X.stack) [] H HZ s.heap s1.heap) (hns : h1.Ns s1.heap.objs.size mo) (kp : ∀ b o, s1.heap.get? b = some o → h1.get? b = some o) :
    Inv (lamCx X A outer s1 HZ E scope f c') [] σ HZ { s1 with heap := h1, toks := tk } := by
  have free' := L.has I.ok
  have down : ∀ {y c}, (cloFrom X.env.cells scope.names []).lookup y = some c → X.env.cells.lookup y = some c := by
    intro y c e
    rcases cloFrom_mem (PySem.mem_of_lookup e) with hm | ⟨a1, a2⟩
    · cases hm
    · obtain ⟨c1, hc⟩ := free' _ a1 rfl
      have hc1 : X.env.cells.lookup y = some c1 := hc
      rw [show c = c1 by rw [a2, hc1] <;> rfl]
      exact hc1
  have up : ∀ {y}, scope.names.lookup y = some .free → ∃ c, (cloFrom X.env.cells scope.names []).lookup y = some c := fun {y} hl =>
    mem_lookup (cloFrom_has (cells := X.env.cells) (acc := []) (show (y, NameKind.free) ∈ scope.names from PySem.mem_of_lookup hl))
  have cellK : ∀ {c : Addr} {v : Option Value}, H c = none → s.heap.IsCell c v → h1.IsCell c v := fun {c v} n ⟨o, ho, hdt⟩ => by
    obtain ⟨sl, q⟩ := un.any ho n (by simp)
    exact ⟨_, kp _ _ q, hdt⟩
  have none_ : ∀ {b : Addr} {T : Prop}, b ∈ (lamCx X A outer s1 HZ E scope f c').ex → T := fun {b T} z => absurd (show b ∈ ([] : List Addr) from z) (by simp)
  refine ⟨⟨e0.mod, L.kind, rfl, rfl, Nat.le_refl _, fun y z c a1 a2 => I.ok.inj y z c (down a1) (down a2), fun y hy => ?_, fun y c z _ => ?_, fun _ => hd, Around.frames_deeper e0.frames, .inr ⟨rfl, rfl⟩, fun b z => none_ z, e0.bs, e0.bsz, fun b _ _ z => none_ z, fun b z => none_ z, e0.funs, e0.frf⟩,
    rfl, e0.bare, Un.kept kp, ⟨_, hns, fun i y v a1 a2 a3 => ?_⟩, fun y c e => ?_, e0.hok.fresh (Nat.le_refl _), fun y c e => ?_, fun q hq => absurd (show q ∈ ([] : List (Addr × Obj)) ++ [] from hq) (by simp), e0.hok.kept kp, I.len⟩
  · have hy2 : scope.names.lookup y = some .cell ∨ scope.names.lookup y = some .free := hy
    rcases hy2 with q | q
    · exact absurd rfl (L.own _ (PySem.mem_of_lookup q)).1
    · exact up q
  · exact absurd (show (false : Bool) = true from z) (by simp)
  · have a4 : Vis scope y := a3
    rcases a4 with k | k | k
    · exact absurd (List.mem_of_getElem? a1) ((L.own _ (PySem.mem_of_lookup k)).2 rfl)
    · exact absurd rfl (L.own _ (PySem.mem_of_lookup k)).1
    · obtain ⟨m, hn, hl⟩ := I.loc
      have vis : Vis X.env.scope y := .inr ((L.free _ (PySem.mem_of_lookup k) rfl).elim .inl .inr)
      obtain ⟨w', r, q⟩ := hl i y v a1 a2 vis
      obtain ⟨c2, h2⟩ := up k
      have c1 := down h2
      refine ⟨w', r, .inr ⟨.inr k, c2, h2, ?_⟩⟩
      rcases q with ⟨k', _⟩ | ⟨_, c3, e', z⟩
      · have k2 : X.env.scope.names.lookup y = some .local := k'
        rcases L.free _ (PySem.mem_of_lookup k) rfl with k3 | k3 <;> rw [show X.env.scope.names.lookup y = _ from k3] at k2 <;> cases k2
      · rw [c1] at e'
        cases e'
        exact cellK (I.freeC y _ c1) z
  · obtain ⟨w', z⟩ := I.cell y c (down e)
    exact ⟨w', cellK (I.freeC y c (down e)) z⟩
  · obtain ⟨v, o, ho, hdt⟩ := I.cell y c (down e)
    exact un.free c o ho (I.freeC y c (down e)) (by simp) in
#guard_msgs (pass all) in open Nat
end
theorem lam_thunkD {X : Cx} {pins : List (Addr × Obj)} {σ : L2.St} {H : Hp} {s : Shared} {f c' T : Addr} {a : Str} {dv doc pm ctv : Value} {params : Arguments} {body : Expr} {scope : Scope} {k : Nat} {t : XK → TE} (I : Inv X pins σ H s) (L : LamT X.N X.env.scope scope)
    (hf : s.heap.get? f = some (lamOD X params body scope T doc pm ctv c')) (hfn : H f = none) (hfr : f ∉ frs X.stack) (hT : s.heap.get? T = some (PySem.W.kdv_tup [dv])) (hTn : H T = none) (hTr : T ∉ frs X.stack) (hl : scope.names.lookup a = some .local)
    (hbind : ∀ (q : Str) (cl : List (Str × Addr)) (T : Addr) (doc pm cv ctv dv : Value), ∃ k, bindArgs (PySem.W.kdv_fn "<lambda>" q params (.expr body) scope cl (.ref T) doc pm cv ctv) ⟨[], []⟩ = seqItems? (.ref T) >>= k ∧ k (some #[dv]) = pure [(a, dv)])
    (hbody : ∀ (A : Around) (outer : List PySem.Env) (s : Shared) (H : Hp) (E : XK), Room k (A.deeper (lamEnv X scope s.heap.objs.size f c')) → PE (lamCx X A outer s H E scope f c') body (t E)) :
    Thunk X.prog X.w X.K X.mg X.base (k + 1) (frs X.stack) H s f c' (X.env.qual ++ "<lambda>") (fun E H Q => t E σ H Q) := by
  refine ⟨⟨_, _, hf, rfl, rfl, rfl, rfl⟩, hfn, hfr, fun A outer s1 H1 Q E hr e0 un hc ht => ?_⟩
  have of1 := un.keep f _ hf hfn hfr (by simp)
  have oT1 := un.keep T _ hT hTn hTr (by simp)
  obtain ⟨⟨oc, fvs, tx, hoc, hdc, hvc⟩, _, _⟩ := e0.hok c' _ hc
  have lim : s1.heap.NoLimit := e0.mod.nolimit.keeps fun b o e => (e0.bs b o e).1
  obtain ⟨kb, b1, b2⟩ := hbind (X.env.qual ++ "<lambda>") (cloFrom X.env.cells scope.names []) T doc pm (.ref c') ctv dv
  have B : BindsTo s1 (PySem.W.kdv_fn "<lambda>" (X.env.qual ++ "<lambda>") params (.expr body) scope (cloFrom X.env.cells scope.names []) (.ref T) doc pm (.ref c') ctv) ⟨[], []⟩ [(a, dv)] := BindsTo.of_defaults rfl oT1 rfl b1 b2
  refine PySem.W.kla_callFunE hr.depth of1 rfl L.co L.gen rfl ⟨c', oc, fvs, tx, rfl, hoc, hdc, hvc⟩ (B _ _ _ _ ?_)
  refine wpAny_newFunctionEnv (fun y hy => (L.own y hy).1) (fun y hy => by rw [List.mem_singleton.mp hy]; exact hl) (fun h1 hns hsb => ⟨lim.fresh _ hsb, ?_⟩) L.kind
  have kp : ∀ b o, s1.heap.get? b = some o → h1.get? b = some o := fun b o e => hsb.extBut b o (Nat.ne_of_lt (Heap.lt_size e)) (Heap.get?_push_of_some _ e)
  have J := lam_startD (E := E) (f := f) (c' := c') (tk := s1.toks + [(a, dv)].length) I L e0 hr.hd un hns kp
  refine PySem.W.kla_codeExpr (wpAny_mono ((hbody _ _ s1 H1 E (hr.deeper _)).run [] _ _ H1 Q J ht) (fun v s' hq => ?_) fun e s' hq => hq)
  obtain ⟨w', H', J', rv, q⟩ := hq
  exact ⟨w', H', J'.os, J'.bare, J'.base, J'.hok, rv, q⟩ in
#guard_msgs (pass all) in open Nat
section
variable {X : Cx} {W : WX}
theorem d_lamD {j k : Nat} {TT : (XK → Hp → VK → Prop) → XK → Hp → VK → Prop} {T : DL.WE → DL.WE} {we : DL.WE} {g c pt : Addr} {q x a : Str} {params : Arguments} {body : Expr} {scope : Scope} {p lpos pos : Pos} {i0 : Int} {j0 : Nat} {p0 : Pos} (tko : TkOk X.prog X.w X.K X.mg X.base j g TT) (td : TkD X.K TT T) (tk : Takes X W) (hr : Room (k + 1 + j) X.A)
    (hg : Gl X x) (hm : X.mg x = some (.ref g)) (hk : PySem.W.keepIn X.K (.ref g) = true) (TB : TabB X.base X.mg c pt) (hcode : X.env.code = .ref c) (L : LamT X.N X.env.scope scope) (hla : scope.names.lookup a = some .local)
    (hbody : ∀ (A : Around) (outer : List PySem.Env) (s : Shared) (H : Hp) (E : XK) (f c' : Addr), Room k (A.deeper (lamEnv X scope s.heap.objs.size f c')) → DE (lamCx X A outer s H E scope f c') (fun cls d _ H => E cls d H) body we)
    (hq : X.env.qual ++ "<lambda>" = q := by rfl) (hdf : params.defaults = [.Constant (.int i0) j0 p0] := by rfl) (hkd : params.kw_defaults = [] := by rfl)
    (hbind : ∀ (q : Str) (cl : List (Str × Addr)) (T : Addr) (doc pm cv ctv dv : Value), ∃ k, bindArgs (PySem.W.kdv_fn "<lambda>" q params (.expr body) scope cl (.ref T) doc pm cv ctv) ⟨[], []⟩ = seqItems? (.ref T) >>= k ∧ k (some #[dv]) = pure [(a, dv)] := by intros; exact ⟨_, rfl, rfl⟩) (hdb : (x == ("__debug__" : Str)) = false := by decide) :
    DE X W (.Call (.Name x p) [.Lambda params body scope lpos] [] pos) (wLam pt q T we) := by
  refine ⟨fun pins s σ H Q I h => ?_⟩
  obtain ⟨F, cs, ρ, P, Z, st, re, ⟨hl, hw⟩, pe, px⟩ := h
  obtain ⟨ps, ht, tt⟩ := tbl_at st hl
  refine wpAny_Call_Name_kw (ld_glob I hg hm ?_ hdb)
  refine PySem.W.callWith_K (h₀ := X.base) I.ok.mod.kin hk ?_ (by rfl) (by rfl)
  show wpAny _ _ (spliced ((false, eval (.Lambda params body scope lpos) X.env) :: backTo pos (starEach [] X.env))) _ _ s
  refine Calls.spliced_cons (lam_makeD I TB hcode ht (hq ▸ tt.le pur_le) hdf hkd (L.has I.ok) fun f c' T' dv doc pm ctv H1 s' I1 lh hf hfn hfr hT hTn hTr => Calls.spliced_nil ⟨I1.kIn, ?_⟩)
  rw [hq] at lh
  obtain ⟨s1, hc⟩ := sta_lam st hl ht tt lh
  have th := lam_thunkD (k := k) (t := fun E => lE X.K (fun cls d _ H => E cls d H) we) I1 L hf hfn hfr hT hTn hTr hla hbind fun A outer s0 H0 E hr' => hbody A outer s0 H0 E f c' hr'
  have run := tko (k + 1) X.A X.stack s' H1 f c' (X.env.qual ++ "<lambda>") _ Q (L2.WE W σ) hr I1.env0 th (hq ▸ hc) (td σ (L2.WE W σ) we H1 Q ⟨F, cs, ρ, P, Z, s1.self, re.mono s1.gr, hw, pe.le s1.gr, px.le s1.gr⟩)
  refine wpAny_call (codeAny_mono run fun r s2 hq2 => ?_)
  cases r with
  | error e => exact passAt tk σ pins H1 s' e s2 I1 hq2
  | ok fl => cases fl <;> first | exact I1.after hq2 | exact False.elim hq2 in
#guard_msgs (pass all) in open Nat
end
end DL
namespace DL
open PySem PySem.Spec PyProof.Rows L2
section
variable {X : Cx} {W : WX} {K : PySem.W.Frag} {b : Expr} {es : List Expr} {w : WA} {wb : DL.WE} {p1 pos : Pos}
def wLRep (w : WA) (wb : DL.WE) : DL.WE := fun ρ cs P Z => w ρ cs (fun ds cs1 => wb ρ cs1 (fun y cs2 => ∃ k : Nat, y = .int (k : Int) ∧ ds.length * k ≤ 100000 ∧ k ≤ 100000 ∧ P (.lst (List.replicate k ds).flatten) cs2) Z) Z
theorem r_lrep {ρ : DL.Env} {cs : Cs} {P : DP} {Z : XZ} (h : w ρ cs (fun ds cs1 => wb ρ cs1 (fun y cs2 => ∃ k : Nat, y = .int (k : Int) ∧ ds.length * k ≤ 100000 ∧ k ≤ 100000 ∧ P (.lst (List.replicate k ds).flatten) cs2) Z) Z) : wLRep w wb ρ cs P Z := h
theorem r_lrepE {ds : List D} {k : Nat} {P : DP} {cs : Cs} (h1 : ds.length * k ≤ 100000) (h2 : k ≤ 100000) (h : P (.lst (List.replicate k ds).flatten) cs) : ∃ k' : Nat, D.int (k : Int) = .int (k' : Int) ∧ ds.length * k' ≤ 100000 ∧ k' ≤ 100000 ∧ P (.lst (List.replicate k' ds).flatten) cs := ⟨k, rfl, h1, h2, h⟩
end
end DL
namespace DL
open PySem PySem.Spec PyProof.Rows L2
def pickL {α : Type} (is : List Nat) (xs : List α) : List α := is.filterMap fun i => xs[i]?
theorem Vals.pick {vs : List V} {us : List Value} (r : Vals vs us) : ∀ is : List Nat, Vals (pickL is vs) (pickL is us)
  | [] => .nil
  | i :: is => by
    unfold pickL
    rw [List.filterMap_cons, List.filterMap_cons]
    cases e : vs[i]? with
    | none =>
      have e2 : us[i]? = none := r.none_of e
      rw [e2]
      exact Vals.pick r is
    | some v =>
      obtain ⟨u, e2, rv⟩ := r.get e
      rw [e2]
      exact .cons rv (Vals.pick r is) in
#guard_msgs (pass all) in open Nat
theorem RepL.getV {K : PySem.W.Frag} {G : Hp} : ∀ {vs : List V} {ds : List D} {i : Nat} {v : V}, RepL K G vs ds → vs[i]? = some v → ∃ d, ds[i]? = some d ∧ Rep K G v d
  | _, _, _, _, .nil, e => by simp at e
  | _, _, 0, _, .cons h _, e => by simp at e; subst e; exact ⟨_, rfl, h⟩
  | _, _, i + 1, d, .cons _ r, e => by
    obtain ⟨u, h1, h2⟩ := RepL.getV (i := i) (v := d) r (by simpa using e)
    exact ⟨u, by simpa using h1, h2⟩ in
#guard_msgs (pass all) in open Nat
theorem RepL.pick {K : PySem.W.Frag} {G : Hp} {vs : List V} {ds : List D} (r : RepL K G vs ds) : ∀ is : List Nat, RepL K G (pickL is vs) (pickL is ds)
  | [] => .nil
  | i :: is => by
    unfold pickL
    rw [List.filterMap_cons, List.filterMap_cons]
    cases e : vs[i]? with
    | none =>
      have e2 : ds[i]? = none := by
        have h2 := List.getElem?_eq_none_iff.mp e
        exact List.getElem?_eq_none_iff.mpr (by rw [← r.length]; exact h2)
      rw [e2]
      exact RepL.pick r is
    | some v =>
      obtain ⟨u, e2, rv⟩ := r.getV e
      rw [e2]
      exact .cons rv (RepL.pick r is) in
#guard_msgs (pass all) in open Nat
theorem pick_len {α : Type} {xs : List α} : ∀ {is : List Nat}, (∀ i ∈ is, i < xs.length) → (pickL is xs).length = is.length
  | [], _ => rfl
  | i :: is, h => by
    have h1 := h i (List.mem_cons_self ..)
    unfold pickL
    rw [List.filterMap_cons, List.getElem?_eq_getElem h1]
    exact congrArg Nat.succ (pick_len fun j hj => h j (List.mem_cons_of_mem _ hj))
section
variable {X : Cx} {W : WX} {e : Expr} {es : List Expr} {w wk : WA} {x : Str} {p pos : Pos}
def wCallG (sp : DSp) (is : List Nat) (ms : List D) (w wk : WA) : DL.WE := fun ρ cs P Z => w ρ cs (fun ds cs1 => wk ρ cs1 (fun zs cs2 => sp (ds ++ pickL is (ms ++ zs)) cs2 P Z) Z) Z
variable {sp : DSp} {is : List Nat} {ms : List D} {ρ : DL.Env} {cs : Cs} {P : DP} {Z : XZ}
theorem r_callG (h : w ρ cs (fun ds cs1 => wk ρ cs1 (fun zs cs2 => sp (ds ++ pickL is (ms ++ zs)) cs2 P Z) Z) Z) : wCallG sp is ms w wk ρ cs P Z := h
theorem r_pk1 {ds xs : List D} {i : Nat} {a : D} (ha : xs[i]? = some a) (h : sp (ds ++ [a]) cs P Z) : sp (ds ++ pickL [i] xs) cs P Z := by
  unfold pickL
  simp only [List.filterMap_cons, ha, List.filterMap_nil]
  exact h in
#guard_msgs (pass all) in open Nat
theorem r_pk2 {ds xs : List D} {i j : Nat} {a b : D} (ha : xs[i]? = some a) (hb : xs[j]? = some b) (h : sp (ds ++ [a, b]) cs P Z) : sp (ds ++ pickL [i, j] xs) cs P Z := by
  unfold pickL
  simp only [List.filterMap_cons, ha, hb, List.filterMap_nil]
  exact h in
#guard_msgs (pass all) in open Nat
end
end DL
namespace DL
open PySem PySem.Spec PyProof.Rows L2
section
variable {X : Cx} {W : WX} {e b : Expr} {we wb : DL.WE} {lo hi : Option Expr} {wl wh : WO} {p1 p2 pos : Pos}
def wSlRep (we : DL.WE) (wl wh : WO) (wb : DL.WE) : DL.WE := fun ρ cs P Z => we ρ cs (fun x cs1 => wl ρ cs1 (fun l cs2 => wh ρ cs2 (fun u cs3 => match x with
  | .lst xs => wb ρ cs3 (fun y cs4 => ∃ k : Nat, y = .int (k : Int) ∧ (cutD xs l u).length * k ≤ 100000 ∧ k ≤ 100000 ∧ P (.lst (List.replicate k (cutD xs l u)).flatten) cs4) Z
  | _ => False) Z) Z) Z
theorem r_slrep {ρ : DL.Env} {cs : Cs} {P : DP} {Z : XZ} (h : we ρ cs (fun x cs1 => wl ρ cs1 (fun l cs2 => wh ρ cs2 (fun u cs3 => match x with
  | .lst xs => wb ρ cs3 (fun y cs4 => ∃ k : Nat, y = .int (k : Int) ∧ (cutD xs l u).length * k ≤ 100000 ∧ k ≤ 100000 ∧ P (.lst (List.replicate k (cutD xs l u)).flatten) cs4) Z
  | _ => False) Z) Z) Z) : wSlRep we wl wh wb ρ cs P Z := h
end
section
variable {b : Bx} {cs : Cs} {P : DP}
theorem r_slB {lo hi : Option Int} (h : P (.tup (DL.cutD [dR b.l, dR b.t, dR b.w, dR b.h] lo hi)) cs) : oSlT b.d lo hi cs P := h
theorem r_listB (h : P (.lst [dR b.l, dR b.t, dR b.w, dR b.h]) cs) : oList [b.d] cs P := h
theorem r_lenB (h : P (.int 4) cs) : oLen [b.d] cs P := h
theorem r_catB {xs : List D} (hl : xs.length ≤ 1000) (h : P (.tup ([dR b.l, dR b.t, dR b.w, dR b.h] ++ xs)) cs) : oCatT b.d (.tup xs) cs P := ⟨by show 4 + xs.length ≤ _; omega, h⟩
end
end DL
namespace DL
open PySem PySem.Spec PyProof.Rows L2
section
variable {X : Cx} {W : WX} {K : PySem.W.Frag} {σ : L2.St} {H : Hp} {a b e : Expr} {wa wb we : DL.WE} {pos : Pos}
def rInQ (K : PySem.W.Frag) (neg : Bool) : R2 := fun x y H Q => ∃ p ys ds d, y = .ref p ∧ SqT K H p ys ∧ DpAll K H ys ds ∧ Dp K H x d ∧ PyData.plainAll ds = true ∧ d.plain = true ∧ d.depth ≤ 60 ∧ Q (.bl (if neg then !(ds.any fun z => PyData.eqv z d) else ds.any fun z => PyData.eqv z d)) H
theorem op_notInQ (hu : X.A.units + 64 < cLine) : OpR X (compareOp .NotIn) (rInQ X.K true) := by
  intro pins s σ H x y v u Q I rx ry h
  obtain ⟨p, ys, ds, d, rfl, hs, hds, hd, p1, p2, p3, q⟩ := h
  obtain ⟨as, r1⟩ := Dp.reads I (.tuple ds) (.ref p) u (.tup hs hds) ry
  obtain ⟨bs, r2⟩ := Dp.reads I d x v hd rx
  refine PySem.SeqAt.notIn_tuple_data r1 r2 p1 p2 ?_ ⟨.bl _, H, I, rfl, q⟩
  have h2 : min (PyData.depthAll ds) d.depth ≤ d.depth := Nat.min_le_right _ _
  omega in
#guard_msgs (pass all) in open Nat
def oNotInQ : DO2 := fun x y cs P => match y with
  | .tup xs => plL 20 xs = true ∧ plD 20 x = true ∧ P (.bl (!(xs.any fun z => eqD z x))) cs
  | _ => False
theorem adq_notInQ : Adq K (rInQ K true) oNotInQ := fun F cs H x y dx dy P Q s rx ry ho pe => by
  cases dy <;> try exact ho.elim
  obtain ⟨p1, p2, h⟩ := ho
  cases ry with
  | tup h1 h2 =>
    have a2 := plD_plain _ 20 p2
    refine ⟨_, _, _, _, rfl, ex_t pur_le h1, RepL.dp pur_le 20 h2 p1, Rep.dp pur_le 20 rx p2, (plL_plain _ 20 p1).1, a2.1, Nat.le_trans a2.2 (by decide), ?_⟩
    rw [if_pos rfl, any_eqv _ p2 _ p1]
    exact pe H cs _ _ s (.bl _) h in
#guard_msgs (pass all) in open Nat
theorem d_notinQ (hu : X.A.units + 64 < cLine) (ha : DE X W a wa) (hb : DE X W b wb) (hm : behindInMarks .NotIn b = false := by rfl) : DE X W (.Compare a [.NotIn] [b] pos) (wOp oNotInQ wa wb) := d_cmp (op_notInQ hu) adq_notInQ ha hb hm in
#guard_msgs (pass all) in open Nat
theorem dt_notinQ (hu : X.A.units + 64 < cLine) (ha : DE X W a wa) (hb : DE X W b wb) (hm : behindInMarks .NotIn b = false := by rfl) : DT X W (.Compare a [.NotIn] [b] pos) (wTest (wOp oNotInQ wa wb)) := dt_cmp (op_notInQ hu) adq_notInQ ha hb hm in
#guard_msgs (pass all) in open Nat
theorem r_notinQ {d : D} {xs : List D} {cs : Cs} {P : DP} (h1 : plL 20 xs = true) (h2 : plD 20 d = true) (h : P (.bl (!(xs.any fun z => eqD z d))) cs) : oNotInQ d (.tup xs) cs P := ⟨h1, h2, h⟩
/-- a global tuple of plain things -/
def dvD : He.Dv → D
  | .non => .non
  | .bl b => .bl b
  | .int i => .int i
  | .str x => .str x
  | _ => .non
theorem dv_rep {K : PySem.W.Frag} {G : Hp} : ∀ {vs : List He.Dv}, (vs.all fun v => match v with | .non | .bl _ | .int _ | .str _ => true | _ => false) = true → RepL K G (vs.map (He.Dv.v K)) (vs.map dvD)
  | [], _ => .nil
  | v :: vs, h => by
    simp only [List.all_cons, Bool.and_eq_true] at h
    refine .cons ?_ (dv_rep h.2)
    have h1 := h.1
    cases v <;> first | exact .non | exact .bl _ | exact .int _ | exact .str _ | cases h1 in
#guard_msgs (pass all) in open Nat
theorem d_gtup {x : Str} {vs : List He.Dv} (hg : Gl X x) (hm : X.mg x = some (.ref (He.ga X.K x))) (ht : He.tupB X.K x vs = true) (hv : (vs.all fun v => match v with | .non | .bl _ | .int _ | .str _ => true | _ => false) = true := by rfl) (hd : (x == ("__debug__" : Str)) = false := by decide) :
    DE X W (.Name x pos) (wC (.tup (vs.map dvD))) := by
  refine PE.imp (pe_glob (v := .ref (He.ga X.K x)) hg hm rfl hd) fun σ H Q hq => ?_
  obtain ⟨F, cs, ρ, P, Z, s, re, hw, pe, px⟩ := hq
  exact pe H cs _ _ s (.tup (He.tupB_ok ht _) (dv_rep hv)) hw in
#guard_msgs (pass all) in open Nat
end
end DL
namespace DL
open PySem L2
inductive Tr where
  | lf
  | nd (dn : Bool) (a b : Tr)
def Tr.d : Tr → D
  | .lf => .tup []
  | .nd dn a b => .tup [sideD dn, a.d, b.d]
def Tr.n : Tr → Nat
  | .lf => 1
  | .nd _ a b => a.n + b.n
def twoW (ws : List Int) (k : Nat) : List Int := [(ws.take k).sum, (ws.drop k).sum]
def fstB (b : Bx) (ws : List Int) (k : Nat) (dn : Bool) : Bx := splitAt_ b (twoW ws k) dn 0
def sndB (b : Bx) (ws : List Int) (k : Nat) (dn : Bool) : Bx := splitAt_ b (twoW ws k) dn 1
/-- things of a slicing: few, each a weight -/
structure FOk (ws : List Int) : Prop where
  l0 : 1 ≤ ws.length
  l1 : ws.length ≤ 12
  rg : ∀ w ∈ ws, 1 ≤ w ∧ w ≤ 400000
theorem FOk.wt {ws : List Int} (h : FOk ws) : WtOk ws := ⟨h.l0, h.l1, h.rg⟩
theorem WtOk.take {ws : List Int} (h : WtOk ws) {k : Nat} (h0 : 1 ≤ k) (h1 : k < ws.length) : WtOk (ws.take k) := by
  have := h.l1
  refine ⟨by rw [List.length_take]; omega, by rw [List.length_take]; omega, fun w hw => h.rg w (List.mem_of_mem_take hw)⟩ in
#guard_msgs (pass all) in open Nat
theorem WtOk.drop {ws : List Int} (h : WtOk ws) {k : Nat} (h1 : k < ws.length) : WtOk (ws.drop k) := by
  have := h.l1
  refine ⟨by rw [List.length_drop]; omega, by rw [List.length_drop]; omega, fun w hw => h.rg w (List.mem_of_mem_drop hw)⟩ in
#guard_msgs (pass all) in open Nat
def tw : Tr → Bx → List Int → Rat
  | .lf, b, _ => shapeR b.w b.h
  | .nd dn x y, b, ws => mxR (tw x (fstB b ws x.n dn) (ws.take x.n)) (tw y (sndB b ws x.n dn) (ws.drop x.n))
/-- r is the least worst shape of all trees -/
structure LeastT (b : Bx) (ws : List Int) (r : Rat) : Prop where
  is : ∃ t : Tr, t.n = ws.length ∧ tw t b ws = r
  le : ∀ t : Tr, t.n = ws.length → r ≤ tw t b ws
theorem LeastT.uniq {b : Bx} {ws : List Int} {r s : Rat} (h : LeastT b ws r) (h' : LeastT b ws s) : r = s := by
  obtain ⟨t, e1, e2⟩ := h.is
  obtain ⟨u, e3, e4⟩ := h'.is
  exact Rat.le_antisymm (e4 ▸ h.le u e3) (e2 ▸ h'.le t e1) in
#guard_msgs (pass all) in open Nat
/-- the least of the two sides, of all places -/
def spotL (n : Nat) : List (Bool × Nat) := (List.range (n - 1)).map (fun i => (true, i + 1)) ++ (List.range (n - 1)).map (fun i => (false, i + 1))
end DL
namespace DL
open PySem PySem.Spec PyProof.Rows L2
section
variable {X : Cx} {W : WX} {es : List Expr} {pos : Pos}
def gL (n : Nat) (gs : WGs) : WG := fun d ρ k => match d with
  | .lst ds => ds.length = n ∧ gs ds ρ k
  | _ => False
theorem r_gL {n : Nat} {gs : WGs} {ds : List D} {ρ : DL.Env} {k : DL.Env → Prop} (hl : ds.length = n) (h : gs ds ρ k) : gL n gs (.lst ds) ρ k := ⟨hl, h⟩
end
theorem sideD_inj {a b : Bool} (h : sideD a = sideD b) : a = b := by
  cases a <;> cases b <;> first | rfl | (injection h with h; exact absurd h (by decide)) in
#guard_msgs (pass all) in open Nat
end DL
namespace DL
open PySem
open PySem.Sem (wp)
def sqH (t : Bool) (h : Heap) (l : Addr) (xs : Array Value) : Prop := match t with
  | true => h.IsTuple l xs
  | false => h.IsList l xs
def sqI (t : Bool) (h : Heap) (it l : Addr) (i : Nat) : Prop := match t with
  | true => h.IsTupleIter it l i
  | false => h.IsListIter it l i
def itC : Bool → String
  | true => "tuple_iterator"
  | false => "list_iterator"
theorem sqI_iff {t : Bool} {h : Heap} {it l : Addr} {i : Nat} : sqI t h it l i ↔ ∃ o, h.get? it = some o ∧ o.cls = .type (itC t) ∧ o.data = .fields #[.ref l, .int i 0] := by cases t <;> exact Iff.rfl in
#guard_msgs (pass all) in open Nat
theorem sqH.ext {t : Bool} {h h' : Heap} {a b : Addr} {xs : Array Value} (x : sqH t h a xs) (hs : Heap.ExtBut b h h') (hab : a ≠ b) : sqH t h' a xs := by
  cases t
  · exact Heap.IsList.extBut x hs hab
  · exact Heap.IsTuple.extBut x hs hab in
#guard_msgs (pass all) in open Nat
theorem sqH.push {t : Bool} {h : Heap} {a : Addr} {xs : Array Value} (x : sqH t h a xs) (o : Obj) : sqH t (h.push o) a xs := by
  cases t
  · exact Heap.IsList.push x o
  · exact Heap.IsTuple.push x o in
#guard_msgs (pass all) in open Nat
theorem sqH.lt {t : Bool} {h : Heap} {a : Addr} {xs : Array Value} (x : sqH t h a xs) : a < h.objs.size := by
  cases t
  · obtain ⟨o, e, _⟩ := (show h.IsList a xs from x); exact Heap.lt_size e
  · obtain ⟨o, e, _⟩ := (show h.IsTuple a xs from x); exact Heap.lt_size e in
#guard_msgs (pass all) in open Nat
theorem sqI.ext {t : Bool} {h h' : Heap} {a l b : Addr} {i : Nat} (x : sqI t h a l i) (hs : Heap.ExtBut b h h') (hab : a ≠ b) : sqI t h' a l i := by
  obtain ⟨o, e, c, d⟩ := sqI_iff.mp x
  exact sqI_iff.mpr ⟨o, hs a o hab e, c, d⟩ in
#guard_msgs (pass all) in open Nat
theorem sqI.at {t : Bool} {h h' : Heap} {a l : Addr} {i : Nat} (x : sqI t h a l i) (hk : ∀ o, h.get? a = some o → h'.get? a = some o) : sqI t h' a l i := by
  obtain ⟨o, e, c, d⟩ := sqI_iff.mp x
  exact sqI_iff.mpr ⟨o, hk o e, c, d⟩ in
#guard_msgs (pass all) in open Nat
theorem sqI.lt {t : Bool} {h : Heap} {a l : Addr} {i : Nat} (x : sqI t h a l i) : a < h.objs.size := by
  obtain ⟨o, e, _⟩ := sqI_iff.mp x
  exact Heap.lt_size e in
#guard_msgs (pass all) in open Nat
section
open PySem.Spec PyProof.Rows L2
def SqB (K : PySem.W.Frag) (t : Bool) (H : Hp) (a : Addr) (xs : List V) : Prop := match t with
  | true => SqT K H a xs
  | false => SqL K H a xs
theorem SqB.is {X : Cx} {pins : List (Addr × Obj)} {σ : L2.St} {H : Hp} {s : Shared} {t : Bool} {a : Addr} {xs : List V} (I : Inv X pins σ H s) (h : SqB X.K t H a xs) : ∃ its : List Value, Vals xs its ∧ sqH t s.heap a its.toArray := by
  cases t
  · obtain ⟨its, r, p, _⟩ := I.list h
    exact ⟨its, r, p.isList⟩
  · obtain ⟨its, r, p, _⟩ := I.tuple h
    exact ⟨its, r, p⟩ in
#guard_msgs (pass all) in open Nat
theorem SqB.inj {X : Cx} {pins : List (Addr × Obj)} {σ : L2.St} {H : Hp} {s : Shared} {t : Bool} {a : Addr} {xs ys : List V} (I : Inv X pins σ H s) (h : SqB X.K t H a xs) (h' : SqB X.K t H a ys) : xs = ys := by
  cases t
  · exact I.list_inj h h'
  · exact I.tuple_inj h h' in
#guard_msgs (pass all) in open Nat
end
section
open PySem.Spec PyProof.Rows L2
variable {X : Cx} {W : WX} {K : PySem.W.Frag}
/-- the items of a list or a tuple -/
def itemsD : D → Option (List D)
  | .lst xs => some xs
  | .tup xs => some xs
  | _ => none
def iZm (w : WA) : WI := fun ρ cs P Z => w ρ cs (fun ds cs1 => ∃ d e xs ys, ds = [d, e] ∧ itemsD d = some xs ∧ itemsD e = some ys ∧ P (List.zipWith (fun d e => D.tup [d, e]) xs ys) cs1) Z
theorem r_zipM {w : WA} {ρ : DL.Env} {cs : Cs} {P : List D → Cs → Prop} {Z : XZ} (h : w ρ cs (fun ds cs1 => ∃ d e xs ys, ds = [d, e] ∧ itemsD d = some xs ∧ itemsD e = some ys ∧ P (List.zipWith (fun d e => D.tup [d, e]) xs ys) cs1) Z) : iZm w ρ cs P Z := h
end
end DL
namespace DL
open PySem L2
def halfB (b : Bx) (ws : List Int) (p : Bool × Nat) (h : Bool) : Bx := if h then sndB b ws p.2 p.1 else fstB b ws p.2 p.1
def halfW (ws : List Int) (k : Nat) (h : Bool) : List Int := if h then ws.drop k else ws.take k
def bitD (h : Bool) : D := .int (if h then 1 else 0)
/-- a paper's pair: which half, and its paper -/
def PairOk (S : Bool → D → Prop) (x : D) : Prop := ∃ h e, x = .tup [bitD h, e] ∧ S h e
/-- the paper stands -/
def St (r : Rat) : Nat → Bx → List Int → D → Prop
  | 0, _, _, _ => False
  | n + 1, b, ws, d => (ws.length = 1 ∧ d = .tup [] ∧ r ≤ shapeR b.w b.h) ∨ (1 < ws.length ∧ ∃ xs, d = .tup xs ∧ xs.length = (spotL ws.length).length ∧ ∀ (i : Nat) (s : Bool × Nat) (x : D), (spotL ws.length)[i]? = some s → xs[i]? = some x → PairOk (fun h e => St r n (halfB b ws s h) (halfW ws s.2 h) e) x)
mutual
def lnD (L : Nat) : D → Bool
  | .tup xs => decide (xs.length ≤ L) && lnL L xs
  | .lst xs => decide (xs.length ≤ L) && lnL L xs
  | _ => true
def lnL (L : Nat) : List D → Bool
  | [] => true
  | d :: ds => lnD L d && lnL L ds
end
theorem lnL_iff {L : Nat} : ∀ {xs : List D}, lnL L xs = true ↔ ∀ x ∈ xs, lnD L x = true
  | [] => ⟨fun _ _ h => (nomatch h), fun _ => rfl⟩
  | d :: ds => by
    simp only [lnL, Bool.and_eq_true, List.mem_cons, forall_eq_or_imp, lnL_iff (xs := ds)]
mutual
theorem lnD_mono {L M : Nat} (h : L ≤ M) : ∀ (d : D), lnD L d = true → lnD M d = true
  | .tup xs, q => by
    simp only [lnD, Bool.and_eq_true, decide_eq_true_eq] at q ⊢
    exact ⟨by omega, lnL_mono h xs q.2⟩
  | .lst xs, q => by
    simp only [lnD, Bool.and_eq_true, decide_eq_true_eq] at q ⊢
    exact ⟨by omega, lnL_mono h xs q.2⟩
  | .non, _ => rfl
  | .bl _, _ => rfl
  | .int _, _ => rfl
  | .str _, _ => rfl
  | .dic _, _ => rfl
  | .dct _, _ => rfl
  | .ins _ _, _ => rfl
  | .xcp _ _ _ _, _ => rfl
  | .opq _, _ => rfl
theorem lnL_mono {L M : Nat} (h : L ≤ M) : ∀ (d : List D), lnL L d = true → lnL M d = true
  | [], _ => rfl
  | d :: ds, q => by
    simp only [lnL, Bool.and_eq_true] at q ⊢
    exact ⟨lnD_mono h d q.1, lnL_mono h ds q.2⟩
end
/-- such data: so deep, so wide -/
structure Fw (N L : Nat) (d : D) : Prop where
  p : plD N d = true
  l : lnD L d = true
theorem Fw.tup {N L : Nat} {xs : List D} (h : Fw (N + 1) L (.tup xs)) : xs.length ≤ L ∧ ∀ x ∈ xs, Fw N L x := by
  have l := h.l
  simp only [lnD, Bool.and_eq_true, decide_eq_true_eq] at l
  exact ⟨l.1, fun x hx => ⟨plL_mem (plD_t h.p) hx, lnL_iff.mp l.2 x hx⟩⟩ in
#guard_msgs (pass all) in open Nat
theorem Fw.mono {N L M : Nat} {d : D} (h : Fw N L d) (hL : L ≤ M) : Fw N M d := ⟨h.p, lnD_mono hL d h.l⟩
end DL
namespace DL
open PySem L2
end DL
namespace DL
open PySem PySem.Spec PyProof.Rows L2
section
variable {X : Cx} {W : WX} {e : Expr} {we : DL.WE} {K : PySem.W.Frag}
def oRevL : D → Cs → DP → Prop := fun x cs P => ∃ xs, x = .lst xs ∧ P (.lst xs.reverse) cs
def wRevL (we : DL.WE) : DL.WE := fun ρ cs P Z => we ρ cs (fun x cs1 => oRevL x cs1 P) Z
theorem r_revL {ρ : DL.Env} {cs : Cs} {P : DP} {Z : XZ} (h : we ρ cs (fun x cs1 => oRevL x cs1 P) Z) : wRevL we ρ cs P Z := h
theorem r_revLL {xs : List D} {cs : Cs} {P : DP} (h : P (.lst xs.reverse) cs) : oRevL (.lst xs) cs P := ⟨xs, rfl, h⟩
end
end DL
namespace DL
open PySem PySem.Spec PyProof.Rows L2
/-- what is asked of a check -/
structure Due (y : Str) (P : Prop) (Q : Str → Prop) : Prop where
  ok : y = "" → P
  no : y ≠ "" → Q y
theorem Due.of {y : Str} {P : Prop} {Q : Str → Prop} (e : y = "") (h : P) : Due y P Q := ⟨fun _ => h, fun z => absurd e z⟩
def sideB (d : D) : Bool := [D.str "down", .str "across"].any fun z => eqD z d
theorem sideB_inv {d : D} (h : sideB d = true) : ∃ dn, d = sideD dn := by
  unfold sideB at h
  simp only [List.any_cons, List.any_nil, Bool.or_false, Bool.or_eq_true] at h
  cases d <;> try (simp [eqD] at h; done)
  rename_i x
  simp only [eqD, beq_iff_eq] at h
  rcases h with h | h
  · exact ⟨true, by rw [← h]; rfl⟩
  · exact ⟨false, by rw [← h]; rfl⟩ in
#guard_msgs (pass all) in open Nat
theorem sideB_side (dn : Bool) : sideB (sideD dn) = true := by cases dn <;> decide
end DL
namespace DL
open PySem PySem.Spec PyProof.Rows L2
section
variable {X : Cx} {W : WX} {K : PySem.W.Frag} {σ : L2.St} {H : Hp} {a b e tg : Expr} {es : List Expr} {wa wb we wo : DL.WE} {w : WA} {pos apos cpos : Pos}
/-- one sign -/
abbrev sgn (c : Nat) : D := .str ⟨#[c]⟩
def oCatS : DO2 := fun x y cs P => match x, y with
  | .str i, .str j => i.length + j.length ≤ 100000 ∧ P (.str (i ++ j)) cs
  | _, _ => False
theorem adq_catS : Adq K (fun x y H Q => ∃ i j, x = .str i ∧ y = .str j ∧ i.length + j.length ≤ sizeLine ∧ Q (.str (i ++ j)) H) oCatS := fun F cs H x y dx dy P Q s rx ry ho pe => by
  unfold oCatS at ho
  split at ho
  · cases rx; cases ry
    exact ⟨_, _, rfl, rfl, Nat.le_trans ho.1 (by decide), pe H cs _ _ s (.str _) ho.2⟩
  · exact ho.elim
theorem d_catS (ha : DE X W a wa) (hb : DE X W b wb) : DE X W (.BinOp a .Add b pos) (wOp oCatS wa wb) := d_op op_add_str adq_catS ha hb
def oInS : DO2 := fun x y cs P => match y with
  | .str z => ∃ c, x = sgn c ∧ P (.bl (decide (c ∈ z.cps.toList))) cs
  | _ => False
def iStrD (we : DL.WE) : WI := fun ρ cs P Z => we ρ cs (fun d cs1 => match d with
  | .str z => P (z.cps.toList.map sgn) cs1
  | _ => False) Z
def oStrI : DOn := fun ds cs P => match ds with
  | [.int i] => i.natAbs.log2 < 1920 ∧ P (.str (toString i : String)) cs
  | _ => False
theorem adq_strI : AdqN K (fun xs H Q => ∃ i, xs = [.int i] ∧ i.natAbs.log2 < 1920 ∧ Q (.str (toString i)) H) oStrI := fun F cs H xs ds P Q s r ho pe => by
  unfold oStrI at ho
  split at ho
  · cases r with
    | cons h t => cases h; cases t; exact ⟨_, rfl, ho.1, pe H cs _ _ s (.str _) ho.2⟩
  · exact ho.elim
theorem RepL.ofStrs {G : Hp} : ∀ (ns : List Str), RepL K G (ns.map V.str) (ns.map D.str)
  | [] => .nil
  | n :: ns => .cons (.str n) (RepL.ofStrs ns)
/-- x.m(y), x a text -/
def wM1 (o : DO2) (wo we : DL.WE) : DL.WE := fun ρ cs P Z => wo ρ cs (fun x cs1 => (∃ z, x = .str z) ∧ we ρ cs1 (fun y cs2 => o x y cs2 P) Z) Z
def wFmt (we : DL.WE) : DL.WE := fun ρ cs P Z => we ρ cs (fun x cs1 => match x with
  | .str y => y.length ≤ 100000 ∧ P (.str y) cs1
  | .int i => i.natAbs.log2 < 1920 ∧ P (.str (toString i : String)) cs1
  | _ => False) Z
theorem fmt_inv {x : D} {cs : Cs} {P : DP} (h : (match x with | .str y => y.length ≤ 100000 ∧ P (.str y) cs | .int i => i.natAbs.log2 < 1920 ∧ P (.str (toString i : String)) cs | _ => False)) : (∃ y, x = .str y ∧ y.length ≤ 100000 ∧ P (.str y) cs) ∨ ∃ i, x = .int i ∧ i.natAbs.log2 < 1920 ∧ P (.str (toString i : String)) cs := by
  cases x <;> first | exact h.elim | exact .inl ⟨_, rfl, h⟩ | exact .inr ⟨_, rfl, h⟩ in
#guard_msgs (pass all) in open Nat
theorem d_fmt (h : DE X W e we) : DE X W (.FormattedValue e (-1) none pos) (wFmt we) := PE.imp (pe_fmt h) fun σ H Q hq => by
  obtain ⟨F, cs, ρ, P, Z, s, re, hw, pe, px⟩ := hq
  refine ⟨F, cs, ρ, _, Z, s, re, hw, fun H1 cs1 v d s1 r1 h1 => ?_, px⟩
  rcases fmt_inv h1 with ⟨y, rfl, h2, h3⟩ | ⟨i, rfl, h2, h3⟩
  · cases r1
    exact .inl ⟨_, rfl, Nat.le_trans h2 (by decide), pe H1 cs1 _ _ s1 (.str _) h3⟩
  · cases r1
    exact .inr ⟨_, rfl, h2, pe H1 cs1 _ _ s1 (.str _) h3⟩ in
#guard_msgs (pass all) in open Nat
/-- the parts -/
inductive DJ (X : Cx) (W : WX) : List Expr → List DL.WE → Prop
  | nil : DJ X W [] []
  | cons {e : Expr} {we : DL.WE} {es : List Expr} {ws : List DL.WE} (h : DE X W e we) (r : DJ X W es ws) : DJ X W (e :: es) (we :: ws)
theorem DJ.pj {ws : List DL.WE} (h : DJ X W es ws) : PJ X es (ws.map (lE X.K W)) := by
  induction h with
  | nil => exact .nil
  | cons h r ih => exact .cons h ih in
#guard_msgs (pass all) in open Nat
def wJs : List DL.WE → Str → Env → Cs → (Str → Cs → Prop) → XZ → Prop
  | [], acc, _, cs, Q, _ => Q acc cs
  | we :: ws, acc, ρ, cs, Q, Z => we ρ cs (fun x cs1 => match x with
    | .str y => (acc ++ y).length ≤ 100000 ∧ wJs ws (acc ++ y) ρ cs1 Q Z
    | _ => False) Z
def wJoined (ws : List DL.WE) : DL.WE := fun ρ cs P Z => wJs ws Str.empty ρ cs (fun y cs1 => P (.str y) cs1) Z
theorem js_ok : ∀ (ws : List DL.WE) (acc : Str) {F : Hp} {cs : Cs} {ρ : DL.Env} {H : Hp} {P : Str → Cs → Prop} {Z : XZ} {Q : Str → Hp → Prop}, Sta K F (pur F cs H) cs H → RepE K (pur F cs H) σ ρ → wJs ws acc ρ cs P Z →
    (∀ H' cs' y, Sta K F (pur F cs H) cs' H' → P y cs' → Q y H') → PostX K F (pur F cs H) Z (fun c d H' => W c d σ H') → tJs (ws.map (lE K W)) acc σ H Q
  | [], acc, F, cs, ρ, H, P, Z, Q, s, re, hw, pe, px => pe H cs acc s hw
  | we :: ws, acc, F, cs, ρ, H, P, Z, Q, s, re, hw, pe, px => by
    refine ⟨F, cs, ρ, _, Z, s, re, hw, fun H1 cs1 v d s1 r1 h1 => ?_, px⟩
    cases d <;> try exact h1.elim
    cases r1
    exact ⟨_, rfl, Nat.le_trans h1.1 (by decide), js_ok ws _ s1.self (re.mono s1.gr) h1.2 (fun H' cs' y s' => pe H' cs' y (s'.from_ s1.gr)) (px.le s1.gr)⟩ in
#guard_msgs (pass all) in open Nat
theorem d_joined {v1 v2 : Expr} {rest : List Expr} {ws : List DL.WE} (h : DJ X W (v1 :: v2 :: rest) ws) : DE X W (.JoinedStr (v1 :: v2 :: rest) pos) (wJoined ws) := PE.imp (pe_joined h.pj) fun σ H Q hq => by
  obtain ⟨F, cs, ρ, P, Z, s, re, hw, pe, px⟩ := hq
  exact js_ok ws _ s re hw (fun H' cs' y s' hp => pe H' cs' _ _ s' (.str y) hp) px
end
section
variable {ρ : DL.Env} {cs : Cs} {P : DP} {Z : XZ} {we wo : DL.WE} {z t : Str}
theorem r_catS (hz : z.length + t.length ≤ 100000) (h : P (.str (z ++ t)) cs) : oCatS (.str z) (.str t) cs P := ⟨hz, h⟩
theorem r_inS {c : Nat} (h : P (.bl (decide (c ∈ z.cps.toList))) cs) : oInS (sgn c) (.str z) cs P := ⟨c, rfl, h⟩
theorem r_strI {R : List D → Cs → Prop} (h : we ρ cs (fun d cs1 => match d with | .str z => R (z.cps.toList.map sgn) cs1 | _ => False) Z) : iStrD we ρ cs R Z := h
theorem r_strN {i : Int} (hi : i.natAbs.log2 < 1920) (h : P (.str (toString i : String)) cs) : oStrI [.int i] cs P := ⟨hi, h⟩
theorem r_m1 {o : DO2} (h : wo ρ cs (fun x cs1 => (∃ z, x = .str z) ∧ we ρ cs1 (fun y cs2 => o x y cs2 P) Z) Z) : wM1 o wo we ρ cs P Z := h
theorem r_isStr {R : Prop} (h : R) : (∃ z', D.str z = .str z') ∧ R := ⟨⟨_, rfl⟩, h⟩
theorem r_fmt (h : we ρ cs (fun x cs1 => match x with
  | .str y => y.length ≤ 100000 ∧ P (.str y) cs1
  | .int i => i.natAbs.log2 < 1920 ∧ P (.str (toString i : String)) cs1
  | _ => False) Z) : wFmt we ρ cs P Z := h
theorem r_joined {ws : List DL.WE} (h : wJs ws Str.empty ρ cs (fun y cs1 => P (.str y) cs1) Z) : wJoined ws ρ cs P Z := h
theorem r_jsC {ws : List DL.WE} {acc : Str} {Q : Str → Cs → Prop} (h : we ρ cs (fun x cs1 => match x with
    | .str y => (acc ++ y).length ≤ 100000 ∧ wJs ws (acc ++ y) ρ cs1 Q Z
    | _ => False) Z) : wJs (we :: ws) acc ρ cs Q Z := h
theorem r_jsN {acc : Str} {Q : Str → Cs → Prop} (h : Q acc cs) : wJs [] acc ρ cs Q Z := h
end
def numT (i : Int) : Str := Str.ofString (toString i)
theorem tl_numN (n : Nat) : TL.tl (numT n) = TL.numL n := TL.tl_num n
theorem tl_numNeg {n : Nat} (h : n ≠ 0) : TL.tl (numT (-(n : Int))) = 45 :: TL.numL n := by
  obtain ⟨k, rfl⟩ : ∃ k, n = k + 1 := ⟨n - 1, by omega⟩
  have e : toString (-((k + 1 : Nat) : Int)) = "-" ++ toString (((k + 1 : Nat) : Int)) := rfl
  have e2 : TL.tl (numT (-((k + 1 : Nat) : Int))) = ("-" ++ toString (((k + 1 : Nat) : Int))).toList.map Char.toNat := by
    show TL.tl (Str.ofString (toString (-((k + 1 : Nat) : Int)))) = _
    rw [e, TL.tl_ofString]
  rw [e2, String.toList_append, List.map_append, ← TL.tl_ofString, ← TL.tl_ofString, TL.tl_num]
  rfl in
#guard_msgs (pass all) in open Nat
theorem numL_len10 {n k : Nat} (hk : 0 < k) (h : n < 10 ^ k) : (TL.numL n).length ≤ k := TL.numL_len hk h
theorem len_tl (x : Str) : x.length = (TL.tl x).length := TL.len_tl x
theorem numT_len {a : Int} {k : Nat} (hk : 0 < k) (h : a.natAbs < 10 ^ k) : (numT a).length ≤ k + 1 := by
  rw [len_tl]
  by_cases h0 : 0 ≤ a
  · obtain ⟨n, rfl⟩ : ∃ n : Nat, a = n := ⟨a.toNat, by omega⟩
    rw [tl_numN]
    have := numL_len10 hk (show n < 10 ^ k by simpa using h)
    omega
  · obtain ⟨n, rfl, hn⟩ : ∃ n : Nat, a = -(n : Int) ∧ n ≠ 0 := ⟨a.natAbs, by omega, by omega⟩
    rw [tl_numNeg hn, List.length_cons]
    have := numL_len10 hk (show n < 10 ^ k by simpa using h)
    omega in
#guard_msgs (pass all) in open Nat
theorem log_of {a : Int} {n : Nat} (h : a.natAbs < 2 ^ n) (hn : n ≤ 1900) : a.natAbs.log2 < 1920 := by
  by_cases h0 : a.natAbs = 0
  · rw [h0]; decide
  · exact Nat.lt_of_lt_of_le ((Nat.log2_lt h0).mpr h) (by omega) in
#guard_msgs (pass all) in open Nat
/-- figures: as many as m at most, no needless nought -/
structure FigOk (l : List Nat) (m : Nat) : Prop where
  ne : l ≠ []
  len : l.length ≤ m
  dig : NumText.AllDigits l
  hd : l.head? = some 48 → l.length = 1
end DL
namespace DL
open PySem
open PySem.Sem (wp)
/-- a zip of two lists after i turns, its pairs kept by others -/
structure ZlSt (h : Heap) (z TI TO i1 i2 l1 l2 S : Addr) (xs ys : Array Value) (i : Nat) : Prop where
  pTI : IsPair h TI (.ref i1) (.ref i2)
  p1 : h.IsListIter i1 l1 i
  p2 : h.IsListIter i2 l2 i
  q1 : h.IsList l1 xs
  q2 : h.IsList l2 ys
  pz : (IsZip h z TI TO .none ∧ ∃ a b, IsPair h TO a b) ∨ ∃ T f oT, IsZipHeld h z TI TO T f ∧ h.get? T = some oT ∧ T ≠ z ∧ T ≠ i1 ∧ T ≠ i2 ∧ T ≠ S
/-- the pairs' places, one behind the other -/
structure ZlG (xs ys : Array Value) (lo : Addr) (h : Heap) (as : List Addr) : Prop where
  rise : as.Pairwise (· < ·)
  above : ∀ a ∈ as, lo < a
  pairs : ∀ (j : Nat) (a : Addr), as[j]? = some a → ∃ x y, xs[j]? = some x ∧ ys[j]? = some y ∧ IsPair h a x y
theorem ZlG.there {xs ys : Array Value} {lo : Addr} {h : Heap} {as : List Addr} (g : ZlG xs ys lo h as) {a : Addr} (ha : a ∈ as) : a < h.objs.size := by
  obtain ⟨j, hj⟩ := List.mem_iff_getElem?.mp ha
  obtain ⟨_, _, _, _, e⟩ := g.pairs j a hj
  exact Heap.lt_size e in
#guard_msgs (pass all) in open Nat
section
variable {prog : Program} {w : World} {A : Around} {E : Value → Shared → Prop} {s : Shared} {z TI TO i1 i2 l1 l2 S : Addr} {xs ys : Array Value} {i : Nat}
theorem ZlSt.keep {h h' : Heap} (st : ZlSt h z TI TO i1 i2 l1 l2 S xs ys i) (hk : ∀ b o, b ≠ S → h.get? b = some o → h'.get? b = some o) (hS : ∀ c ∈ [z, TI, TO, i1, i2, l1, l2], S ≠ c) : ZlSt h' z TI TO i1 i2 l1 l2 S xs ys i := by
  obtain ⟨hTI, h1, h2, hl1, hl2, hz⟩ := st
  refine ⟨hk _ _ (hS TI (by simp)).symm hTI, h1.at fun o e => hk _ o (hS i1 (by simp)).symm e, h2.at fun o e => hk _ o (hS i2 (by simp)).symm e, hl1.at fun o e => hk _ o (hS l1 (by simp)).symm e, hl2.at fun o e => hk _ o (hS l2 (by simp)).symm e, ?_⟩
  rcases hz with ⟨hz, a, b, hTO⟩ | ⟨T, f, oT, hz, hT, r1, r2, r3, r4⟩
  · exact .inl ⟨hk _ _ (hS z (by simp)).symm hz, a, b, hk _ _ (hS TO (by simp)).symm hTO⟩
  · exact .inr ⟨T, f, oT, hk _ _ (hS z (by simp)).symm hz, hk _ _ r4 hT, r1, r2, r3, r4⟩ in
#guard_msgs (pass all) in open Nat
end
section
open PySem.Spec PyProof.Rows L2
variable {X : Cx} {W : WX} {K : PySem.W.Frag} {F G0 H H' : Hp} {cs : Cs}
theorem Sta.ext (s : Sta K F G0 cs H) (e : Ex H H') : Sta K F G0 cs H' ∧ Ex (pur F cs H) (pur F cs H') := by
  have g : Ex (pur F cs H) (pur F cs H') := fun b u q => by
    obtain ⟨e1, e2, e3⟩ := pur_of q
    rw [pur_at e2 e3]
    exact e b u e1
  refine ⟨⟨s.fr.trans e, s.gr.trans g, s.nd, s.ap, fun a m hm => ?_, s.ft⟩, g⟩
  obtain ⟨o, ho, r⟩ := s.ow a m hm
  exact ⟨o, e _ _ ho, r.mono g⟩ in
#guard_msgs (pass all) in open Nat
/-- list(zip(xs, ys)) -/
def wLstZ (w : WA) : DL.WE := fun ρ cs P Z => w ρ cs (fun ds cs1 => ∃ xs ys, ds = [.lst xs, .lst ys] ∧ P (.lst (List.zipWith (fun d e => D.tup [d, e]) xs ys)) cs1) Z
theorem r_lstZ {w : WA} {ρ : DL.Env} {P : DP} {Z : XZ} (h : w ρ cs (fun ds cs1 => ∃ xs ys, ds = [.lst xs, .lst ys] ∧ P (.lst (List.zipWith (fun d e => D.tup [d, e]) xs ys)) cs1) Z) : wLstZ w ρ cs P Z := h
def dicZ (ns : List Str) (bs : List D) : List (Key × D) := (ns.zip bs).map fun p => (Sum.inr p.1, p.2)
end
end DL
namespace DL
open PySem PySem.Spec PyProof.Rows L2
/-- what the ways from a to b and from c to d have in common -/
def ovR (a b c d : Rat) : Rat := if (if a < c then c else a) < (if b < d then b else d) then (if b < d then b else d) - (if a < c then c else a) else 0
def edgeR (b c : Bx) : Rat := if c.l + c.w = b.l ∨ b.l + b.w = c.l then ovR b.t (b.t + b.h) c.t (c.t + c.h) else if c.t + c.h = b.t ∨ b.t + b.h = c.t then ovR b.l (b.l + b.w) c.l (c.l + c.w) else 0
theorem lk_mem {κ α : Type} [DecidableEq κ] : ∀ {kvs : List (κ × α)} {k : κ} {v : α}, (kvs.map (·.1)).Nodup → (k, v) ∈ kvs → lk kvs k = some v
  | q :: r, k, v, nd, h => by
    rw [List.map_cons, List.nodup_cons] at nd
    rcases List.mem_cons.mp h with e | e
    · subst e; exact look_pos rfl
    · rw [look_neg (fun z => nd.1 (List.mem_map.mpr ⟨(k, v), e, z.symm⟩)), lk_mem nd.2 e]
end DL
namespace DL
open PySem PySem.Spec PyProof.Rows L2
def leS (x y : Str) : Bool := decide (x.cps.toList ≤ y.cps.toList)
theorem leS_lt (x y : Str) : leS x y = !ltCps y.cps.toList x.cps.toList := by
  unfold leS
  rw [ltCps_eq, ← decide_not]
  exact decide_eq_decide.mpr (by rw [List.not_lt]) in
#guard_msgs (pass all) in open Nat
theorem leS_trans (x y z : Str) (h1 : leS x y = true) (h2 : leS y z = true) : leS x z = true :=
  decide_eq_true (List.le_trans (of_decide_eq_true h1) (of_decide_eq_true h2))
theorem leS_total (x y : Str) : (leS x y || leS y x) = true := by
  rw [Bool.or_eq_true]
  rcases List.le_total x.cps.toList y.cps.toList with h | h
  · exact .inl (decide_eq_true h)
  · exact .inr (decide_eq_true h) in
#guard_msgs (pass all) in open Nat
theorem leS_anti {x y : Str} (h1 : leS x y = true) (h2 : leS y x = true) : x = y :=
  Str.ext' (Array.toList_inj.mp (List.le_antisymm (of_decide_eq_true h1) (of_decide_eq_true h2)))
def sortN (l : List Str) : List Str := l.mergeSort leS
theorem sortN_perm (l : List Str) : (sortN l).Perm l := List.mergeSort_perm l leS
theorem sortN_pw (l : List Str) : (sortN l).Pairwise fun a b => leS a b = true := List.pairwise_mergeSort leS_trans leS_total l
theorem srt_uniq {l m : List Str} (p : l.Perm m) (h1 : l.Pairwise fun a b => leS a b = true) (h2 : m.Pairwise fun a b => leS a b = true) : l = m :=
  List.Perm.eq_of_pairwise (le := fun a b => leS a b = true) (fun a b _ _ h3 h4 => leS_anti h3 h4) h1 h2 p
theorem rising_pw : ∀ (p : Str) (l : List Str), risingS p l = true → (p :: l).Pairwise fun a b => leS a b = true
  | p, [], _ => List.pairwise_singleton _ _
  | p, x :: r, h => by
    have h' : (!ltCps x.cps.toList p.cps.toList && risingS x r) = true := h
    rw [Bool.and_eq_true, ← leS_lt] at h'
    have ih := rising_pw x r h'.2
    refine List.pairwise_cons.mpr ⟨fun y hy => ?_, ih⟩
    rcases List.mem_cons.mp hy with e | e
    · rw [e]; exact h'.1
    · exact leS_trans _ _ _ h'.1 ((List.pairwise_cons.mp ih).1 y e) in
#guard_msgs (pass all) in open Nat
theorem sorted_pw : ∀ (l : List Str), sortedS l = true → l.Pairwise fun a b => leS a b = true
  | [], _ => .nil
  | x :: r, h => rising_pw x r h
theorem sortN_of {l ys : List Str} (p : ys.Perm l) (h : sortedS ys = true) : ys = sortN l :=
  srt_uniq (p.trans (sortN_perm l).symm) (sorted_pw ys h) (sortN_pw l)
theorem sortN_mem {l : List Str} {x : Str} : x ∈ sortN l ↔ x ∈ l := (sortN_perm l).mem_iff
section
variable {α : Type} [DecidableEq α]
/-- a way from a to b behind a -/
def Wk (N : α → List α) : α → List α → α → Prop
  | a, [], b => a = b
  | a, x :: r, b => x ∈ N a ∧ Wk N x r b
variable {N : α → List α}
theorem Wk.app : ∀ {a b c : α} {r s : List α}, Wk N a r b → Wk N b s c → Wk N a (r ++ s) c
  | _, _, _, [], _, h, k => by cases h; exact k
  | _, _, _, x :: r, s, ⟨h1, h2⟩, k => ⟨h1, h2.app k⟩
theorem Wk.snoc {a b c : α} {r : List α} (h : Wk N a r b) (k : c ∈ N b) : Wk N a (r ++ [c]) c := h.app ⟨k, rfl⟩
theorem Wk.last : ∀ {a b : α} {r : List α}, Wk N a r b → (a :: r).getLast? = some b
  | _, _, [], h => by cases h; rfl
  | a, b, x :: r, ⟨h1, h2⟩ => by rw [List.getLast?_cons_cons]; exact h2.last
/-- the way back -/
theorem Wk.back (sy : ∀ x y, y ∈ N x → x ∈ N y) : ∀ {a b : α} {r : List α}, Wk N a r b → ∃ s, s.length = r.length ∧ Wk N b s a
  | _, _, [], h => ⟨[], rfl, h.symm⟩
  | a, b, x :: r, ⟨h1, h2⟩ => by
    obtain ⟨s, e, w⟩ := h2.back sy
    exact ⟨s ++ [a], by rw [List.length_append, e]; rfl, w.snoc (sy _ _ h1)⟩
/-- k is the least length of a way -/
structure Dst (N : α → List α) (a b : α) (k : Nat) : Prop where
  way : ∃ r, r.length = k ∧ Wk N a r b
  min : ∀ r, Wk N a r b → k ≤ r.length
theorem Dst.uniq {a b : α} {k l : Nat} (h : Dst N a b k) (g : Dst N a b l) : k = l := by
  obtain ⟨r, e1, w1⟩ := h.way
  obtain ⟨s, e2, w2⟩ := g.way
  have := h.min s w2
  have := g.min r w1
  omega in
#guard_msgs (pass all) in open Nat
theorem Dst.symm (sy : ∀ x y, y ∈ N x → x ∈ N y) {a b : α} {k : Nat} (h : Dst N a b k) : Dst N b a k := by
  obtain ⟨r, e1, w1⟩ := h.way
  obtain ⟨s, e, w⟩ := w1.back sy
  refine ⟨⟨s, by omega, w⟩, fun t wt => ?_⟩
  obtain ⟨u, eu, wu⟩ := wt.back sy
  have := h.min u wu
  omega in
#guard_msgs (pass all) in open Nat
theorem Dst.zero (a : α) : Dst N a a 0 := ⟨⟨[], rfl, rfl⟩, fun _ _ => Nat.zero_le _⟩
/-- the widening: st what has steps, q what waits -/
structure Bfs (N : α → List α) (t : α) (st : List (α × Nat)) (q : List α) : Prop where
  nd : (st.map (·.1)).Nodup
  qn : q.Nodup
  t0 : (t, 0) ∈ st
  way : ∀ v k, (v, k) ∈ st → ∃ r, r.length = k ∧ Wk N v r t
  wait : ∀ v ∈ q, v ∈ st.map (·.1)
  done : ∀ v k, (v, k) ∈ st → v ∉ q → ∀ y ∈ N v, ∃ l, (y, l) ∈ st ∧ l ≤ k + 1
  rise : q.Pairwise fun a b => ∀ k l, (a, k) ∈ st → (b, l) ∈ st → k ≤ l
  top : ∀ a r, q = a :: r → ∀ k, (a, k) ∈ st → ∀ v l, (v, l) ∈ st → l ≤ k + 1
theorem uniq_of_nd {st : List (α × Nat)} (nd : (st.map (·.1)).Nodup) {v : α} {k l : Nat} (h : (v, k) ∈ st) (g : (v, l) ∈ st) : k = l := by
  induction st with
  | nil => cases h
  | cons p st ih =>
    rw [List.map_cons, List.nodup_cons] at nd
    rcases List.mem_cons.mp h with e | e <;> rcases List.mem_cons.mp g with e' | e'
    · rw [← e] at e'; cases e'; rfl
    · exact absurd (List.mem_map.mpr ⟨_, e', by rw [← e]⟩) nd.1
    · exact absurd (List.mem_map.mpr ⟨_, e, by rw [← e']⟩) nd.1
    · exact ih nd.2 e e' in
#guard_msgs (pass all) in open Nat
theorem Bfs.start (t : α) : Bfs N t [(t, 0)] [t] := by
  refine ⟨by simp, by simp, by simp, fun v k h => ?_, fun v h => by simpa using h, fun v k h hn => ?_, by simp, fun a r e k h v l g => ?_⟩
  · simp at h; obtain ⟨rfl, rfl⟩ := h; exact ⟨[], rfl, rfl⟩
  · simp at h; obtain ⟨rfl, rfl⟩ := h; simp at hn
  · simp at g h; omega in
#guard_msgs (pass all) in open Nat
/-- a turn: the first that waits tells its neighbours that are new -/
theorem Bfs.turn {t a : α} {st : List (α × Nat)} {r : List α} {k : Nat} (h : Bfs N t st (a :: r)) (ha : (a, k) ∈ st) (nn : (N a).Nodup) (sy : ∀ x y, y ∈ N x → x ∈ N y) :
    Bfs N t (st ++ ((N a).filter fun y => decide (y ∉ st.map (·.1))).map fun y => (y, k + 1)) (r ++ (N a).filter fun y => decide (y ∉ st.map (·.1))) := by
  have hnew : ∀ y ∈ (N a).filter (fun y => decide (y ∉ st.map (·.1))), y ∈ N a ∧ y ∉ st.map (·.1) := fun y hy => by
    have := List.mem_filter.mp hy
    exact ⟨this.1, of_decide_eq_true this.2⟩
  generalize hL : (N a).filter (fun y => decide (y ∉ st.map (·.1))) = L at hnew ⊢
  have hall : ∀ y ∈ N a, y ∈ st.map (·.1) ∨ y ∈ L := fun y hy => by
    by_cases e : y ∈ st.map (·.1)
    · exact .inl e
    · exact .inr (by rw [← hL]; exact List.mem_filter.mpr ⟨hy, decide_eq_true e⟩)
  have nL : L.Nodup := by rw [← hL]; exact nn.filter _
  have em : ∀ v l, (v, l) ∈ st ++ L.map (fun y => (y, k + 1)) ↔ (v, l) ∈ st ∨ (v ∈ L ∧ l = k + 1) := fun v l => by
    rw [List.mem_append, List.mem_map]
    constructor
    · rintro (h | ⟨y, hy, e⟩)
      · exact .inl h
      · cases e; exact .inr ⟨hy, rfl⟩
    · rintro (h | ⟨hy, e⟩)
      · exact .inl h
      · exact .inr ⟨v, hy, by rw [e]⟩
  have en : (st ++ L.map (fun y => (y, k + 1))).map (·.1) = st.map (·.1) ++ L := by
    rw [List.map_append, List.map_map]
    congr 1
    rw [show ((fun x : α × Nat => x.1) ∘ fun y => (y, k + 1)) = id from rfl, List.map_id]
  have nr : a ∉ r ∧ r.Nodup := List.nodup_cons.mp h.qn
  have old : ∀ v l, (v, l) ∈ st → v ∉ L := fun v l hv hl => (hnew v hl).2 (List.mem_map.mpr ⟨_, hv, rfl⟩)
  refine ⟨?_, ?_, ?_, ?_, ?_, ?_, ?_, ?_⟩
  · rw [en]
    exact List.nodup_append.mpr ⟨h.nd, nL, fun x hx y hy e => (hnew y hy).2 (e ▸ hx)⟩
  · exact List.nodup_append.mpr ⟨nr.2, nL, fun x hx y hy e => (hnew y hy).2 (e ▸ h.wait x (List.mem_cons_of_mem _ hx))⟩
  · exact (em _ _).mpr (.inl h.t0)
  · intro v l hv
    have hv0 := (em _ _).mp hv
    clear hv
    rcases hv0 with hv | ⟨hv, rfl⟩
    · exact h.way v l hv
    · obtain ⟨s, e, w⟩ := h.way a k ha
      exact ⟨a :: s, by rw [List.length_cons, e], sy _ _ (hnew v hv).1, w⟩
  · intro v hv
    rw [en]
    rcases List.mem_append.mp hv with hv | hv
    · exact List.mem_append.mpr (.inl (h.wait v (List.mem_cons_of_mem _ hv)))
    · exact List.mem_append.mpr (.inr hv)
  · intro v l hv hn y hy
    have hv0 := (em _ _).mp hv
    clear hv
    rcases hv0 with hv | ⟨hv, rfl⟩
    · by_cases e : v = a
      · subst e
        have el : l = k := uniq_of_nd h.nd hv ha
        subst el
        rcases hall y hy with z | z
        · obtain ⟨⟨y', m⟩, hm, ey⟩ := List.mem_map.mp z
          have ey' : y' = y := ey
          subst ey'
          exact ⟨m, (em _ _).mpr (.inl hm), h.top v r rfl l hv y' m hm⟩
        · exact ⟨l + 1, (em _ _).mpr (.inr ⟨z, rfl⟩), Nat.le_refl _⟩
      · have hn' : v ∉ a :: r := fun z => by
          rcases List.mem_cons.mp z with z | z
          · exact e z
          · exact hn (List.mem_append.mpr (.inl z))
        obtain ⟨m, hm, hl⟩ := h.done v l hv hn' y hy
        exact ⟨m, (em _ _).mpr (.inl hm), hl⟩
    · exact absurd (List.mem_append.mpr (.inr hv)) hn
  · have pr := List.pairwise_cons.mp h.rise
    refine List.pairwise_append.mpr ⟨?_, ?_, ?_⟩
    · refine pr.2.imp_of_mem fun {x y} hx hy hxy m n hm hn => ?_
      have hm0 := (em _ _).mp hm
      clear hm
      rcases hm0 with hm | ⟨hm, rfl⟩
      · have hn0 := (em _ _).mp hn
        clear hn
        rcases hn0 with hn | ⟨hn, rfl⟩
        · exact hxy m n hm hn
        · exact h.top a r rfl k ha x m hm
      · exact absurd (h.wait x (List.mem_cons_of_mem _ hx)) (hnew x hm).2
    · refine nL.imp_of_mem fun {x y} hx hy _ m n hm hn => ?_
      have hm0 := (em _ _).mp hm
      clear hm
      rcases hm0 with hm | ⟨hm, rfl⟩
      · exact absurd hx (old x m hm)
      · have hn0 := (em _ _).mp hn
        clear hn
        rcases hn0 with hn | ⟨hn, rfl⟩
        · exact absurd hy (old y n hn)
        · exact Nat.le_refl _
    · intro x hx y hy m n hm hn
      have hn0 := (em _ _).mp hn
      clear hn
      rcases hn0 with hn | ⟨_, rfl⟩
      · exact absurd hy (old y n hn)
      · have hm0 := (em _ _).mp hm
        clear hm
        rcases hm0 with hm | ⟨hm, rfl⟩
        · exact h.top a r rfl k ha x m hm
        · exact Nat.le_refl _
  · intro x s e m hm v l hv
    have hkm : k ≤ m := by
      have hm0 := (em _ _).mp hm
      clear hm
      rcases hm0 with hm | ⟨hm, rfl⟩
      · have hx : x ∈ r := by
          have : x ∈ r ++ L := by rw [e]; exact List.mem_cons_self ..
          rcases List.mem_append.mp this with z | z
          · exact z
          · exact absurd z (old x m hm)
        exact (List.pairwise_cons.mp h.rise).1 x hx k m ha hm
      · omega
    have hv0 := (em _ _).mp hv
    clear hv
    rcases hv0 with hv | ⟨hv, rfl⟩
    · have := h.top a r rfl k ha v l hv
      omega
    · omega in
#guard_msgs (pass all) in open Nat
section
variable (le : α → α → Bool)
def leL : List α → List α → Bool
  | [], _ => true
  | _ :: _, [] => false
  | x :: xs, y :: ys => if x = y then leL xs ys else le x y
end
structure Ord (le : α → α → Bool) : Prop where
  rf : ∀ x, le x x = true
  tr : ∀ x y z, le x y = true → le y z = true → le x z = true
  an : ∀ x y, le x y = true → le y x = true → x = y
  tt : ∀ x y, (le x y || le y x) = true
variable {le : α → α → Bool}
theorem leL_anti (o : Ord le) : ∀ {l m : List α}, leL le l m = true → leL le m l = true → l = m
  | [], [], _, _ => rfl
  | [], _ :: _, _, h => by cases h
  | _ :: _, [], h, _ => by cases h
  | x :: l, y :: m, h, g => by
    unfold leL at h g
    by_cases e : x = y
    · subst e
      rw [if_pos rfl] at h g
      rw [leL_anti o h g]
    · rw [if_neg e] at h
      rw [if_neg (Ne.symm e)] at g
      exact absurd (o.an _ _ h g) e in
#guard_msgs (pass all) in open Nat
/-- the first of the shortest ways -/
structure FstW (le : α → α → Bool) (N : α → List α) (a b : α) (r : List α) : Prop where
  w : Wk N a r b
  mn : ∀ s, Wk N a s b → r.length ≤ s.length
  fs : ∀ s, Wk N a s b → s.length = r.length → leL le r s = true
theorem FstW.uniq (o : Ord le) {a b : α} {r s : List α} (h : FstW le N a b r) (g : FstW le N a b s) : r = s := by
  have e : r.length = s.length := Nat.le_antisymm (h.mn s g.w) (g.mn r h.w)
  exact leL_anti o (h.fs s g.w e.symm) (g.fs r h.w e) in
#guard_msgs (pass all) in open Nat
theorem FstW.nil (a : α) : FstW le N a a [] := ⟨rfl, fun _ _ => Nat.zero_le _, fun s _ _ => by unfold leL; rfl⟩
/-- the level before -/
theorem Dst.pred {a b : α} {k : Nat} (h : Dst N a b (k + 1)) : ∃ c, Dst N a c k ∧ b ∈ N c := by
  obtain ⟨s, es, ws⟩ := h.way
  have hs : s ≠ [] := fun e => by rw [e] at es; cases es
  obtain ⟨s', x, rfl⟩ : ∃ s' x, s = s' ++ [x] := ⟨_, _, (List.dropLast_concat_getLast hs).symm⟩
  have split : ∀ {a : α} {s' : List α} {x : α}, Wk N a (s' ++ [x]) b → ∃ d, Wk N a s' d ∧ x ∈ N d ∧ x = b := by
    intro a s'
    induction s' generalizing a with
    | nil => intro x w; exact ⟨a, rfl, w.1, w.2⟩
    | cons y s' ih =>
      intro x w
      obtain ⟨d, w1, w2, w3⟩ := ih w.2
      exact ⟨d, ⟨w.1, w1⟩, w2, w3⟩
  obtain ⟨d, wd, hd, rfl⟩ := split ws
  have es' : s'.length = k := by rw [List.length_append, List.length_singleton] at es; omega
  exact ⟨d, ⟨⟨s', es', wd⟩, fun u wu => by
    have := h.min _ (wu.snoc hd)
    rw [List.length_append, List.length_singleton] at this
    omega⟩, hd⟩ in
#guard_msgs (pass all) in open Nat
/-- a first way meets nothing twice -/
theorem Wk.nd_of {b : α} : ∀ {a : α} {r : List α}, Wk N a r b → (∀ s, Wk N a s b → r.length ≤ s.length) → (a :: r).Nodup := by
    intro a r
    induction r generalizing a with
    | nil => intro _ _; simp
    | cons x r ih =>
      intro w m
      have hm : ∀ s, Wk N x s b → r.length ≤ s.length := fun s ws => by
        have := m (x :: s) ⟨w.1, ws⟩
        simpa using this
      refine List.nodup_cons.mpr ⟨fun ha => ?_, ih w.2 hm⟩
      obtain ⟨p, q, e⟩ := List.append_of_mem ha
      have tail : ∀ {x : α} {p r q : List α}, x :: r = p ++ a :: q → Wk N x r b → Wk N a q b := by
        intro x p
        induction p generalizing x with
        | nil => intro r q e w3; injection e with e1 e2; rw [← e1, ← e2]; exact w3
        | cons y p ihp =>
          intro r q e w3
          injection e with e1 e2
          rw [e2] at w3
          cases p with
          | nil => exact w3.2
          | cons z p => exact ihp rfl w3.2
      have wq := tail e w.2
      have hq := m q wq
      have : (x :: r).length = (p ++ a :: q).length := by rw [e]
      simp at this hq
      omega in
#guard_msgs (pass all) in open Nat
theorem FstW.nd {a b : α} {r : List α} (h : FstW le N a b r) : (a :: r).Nodup := Wk.nd_of h.w h.mn
theorem Wk.mem : ∀ {a b : α} {r : List α}, Wk N a r b → ∀ v ∈ r, ∃ u, v ∈ N u
  | _, _, _ :: _, ⟨h1, h2⟩, v, hv => by
    rcases List.mem_cons.mp hv with e | e
    · exact ⟨_, e ▸ h1⟩
    · exact h2.mem v e
end
section
variable {X : Cx} {K : PySem.W.Frag}
def rSortDS : List V → Hp → VK → Prop := fun xs H Q => ∃ (a : Addr) (kvs : List (Key × V)) (ks : List Str), xs = [.ref a] ∧ Rd H a (.dK kvs) ∧ kvs.map (·.1) = ks.map Sum.inr ∧ ks.length < 64 ∧ ∀ ys p, ys.Perm ks → sortedS ys = true → H p = none → Q (.ref p) (upd H p (.lst (ys.map V.str)))
theorem cr_sortDS (hc : X.calm = true) : CallR X (.builtin "sorted") rSortDS := call_sortedD hc
def oSortDS : DOn := fun ds cs P => ∃ (d : D) (kvs : List (Key × D)) (ks : List Str), ds = [d] ∧ ddAt d cs = some (.inl kvs) ∧ kvs.map (·.1) = ks.map Sum.inr ∧ ks.length < 64 ∧ P (.lst ((sortN ks).map D.str)) cs
theorem adq_sortDS : AdqN K rSortDS oSortDS := fun F cs H xs ds P Q s r ho pe => by
  obtain ⟨d, kvs, ks, rfl, hd, hk, hl, h⟩ := ho
  cases r with
  | cons r1 r2 =>
  cases r2
  obtain ⟨p, vs, rfl, h1, h2⟩ := dd_k s r1 hd
  refine ⟨p, vs, ks, rfl, h1, by rw [h2.keys]; exact hk, hl, fun ys q hp hs hq => ?_⟩
  obtain ⟨s2, e2⟩ := s.new (o := .lst (ys.map V.str)) hq
  rw [← sortN_of hp hs] at h
  exact pe _ cs _ _ s2 (.lst (SqL.of e2) (RepL.ofStrs ys)) h in
#guard_msgs (pass all) in open Nat
def oSortLS : DOn := fun ds cs P => ∃ (d : D) (ks : List Str), ds = [d] ∧ lstOf cs d = some (ks.map D.str) ∧ ks.length < 64 ∧ P (.lst ((sortN ks).map D.str)) cs
theorem adq_sortLS : AdqN K (rSortedS K) oSortLS := fun F cs H xs ds P Q s r ho pe => by
  obtain ⟨d, ks, rfl, hd, hl, h⟩ := ho
  cases r with
  | cons r1 r2 =>
  cases r2
  obtain ⟨p, vs, rfl, h1, h2⟩ := lstOf_sq s r1 hd
  obtain rfl := RepL.strs ks h2
  refine ⟨p, ks, rfl, h1, hl, fun ys q hp hs hq => ?_⟩
  obtain ⟨s2, e2⟩ := s.new (o := .lst (ys.map V.str)) hq
  rw [← sortN_of hp hs] at h
  exact pe _ cs _ _ s2 (.lst (SqL.of e2) (RepL.ofStrs ys)) h in
#guard_msgs (pass all) in open Nat
theorem r_sortDS {kvs : List (Key × D)} {ks : List Str} {cs : Cs} {P : DP} (hk : kvs.map (·.1) = ks.map Sum.inr) (hl : ks.length < 64) (h : P (.lst ((sortN ks).map D.str)) cs) : oSortDS [.dic kvs] cs P := ⟨_, kvs, ks, rfl, rfl, hk, hl, h⟩
theorem r_sortLS {ks : List Str} {cs : Cs} {P : DP} (hl : ks.length < 64) (h : P (.lst ((sortN ks).map D.str)) cs) : oSortLS [.lst (ks.map D.str)] cs P := ⟨_, ks, rfl, rfl, hl, h⟩
end
abbrev NB := List (Str × Bx)
def dicB (nb : NB) : List (Key × D) := nb.map fun q => (Sum.inr q.1, q.2.d)
def bxOf (nb : NB) (x : Str) : Bx := ((nb.find? fun q => decide (q.1 = x)).map (·.2)).getD ⟨0, 0, 0, 0⟩
def namesB (nb : NB) : List Str := sortN (nb.map (·.1))
theorem namesB_mem {nb : NB} {x : Str} : x ∈ namesB nb ↔ x ∈ nb.map (·.1) := sortN_mem
def nearAll (nb : NB) (x : Str) : List (Str × Rat) := ((namesB nb).filter fun y => decide (y ≠ x)).map fun y => (y, edgeR (bxOf nb x) (bxOf nb y))
def nearB (nb : NB) (x : Str) : List (Str × Rat) := (nearAll nb x).filter fun q => decide (0 < q.2)
def nearN (nb : NB) (x : Str) : List Str := (nearB nb x).map (·.1)
theorem nearN_eq (nb : NB) (x : Str) : nearN nb x = (namesB nb).filter fun y => decide (y ≠ x) && decide (0 < edgeR (bxOf nb x) (bxOf nb y)) := by
  unfold nearN nearB nearAll
  generalize namesB nb = l
  induction l with
  | nil => rfl
  | cons y l ih =>
    by_cases e : y = x
    · rw [List.filter_cons_of_neg (by simp [e]), List.filter_cons_of_neg (by simp [e])]; exact ih
    · by_cases e2 : 0 < edgeR (bxOf nb x) (bxOf nb y)
      · rw [List.filter_cons_of_pos (by simp [e]), List.filter_cons_of_pos (by simp [e, e2]), List.map_cons, List.filter_cons_of_pos (by simp [e2]), List.map_cons, ih]
      · rw [List.filter_cons_of_pos (by simp [e]), List.filter_cons_of_neg (by simp [e, e2]), List.map_cons, List.filter_cons_of_neg (by simp [e2]), ih] in
#guard_msgs (pass all) in open Nat
theorem nearN_mem {nb : NB} {x y : Str} : y ∈ nearN nb x ↔ y ∈ nb.map (·.1) ∧ y ≠ x ∧ 0 < edgeR (bxOf nb x) (bxOf nb y) := by
  rw [nearN_eq, List.mem_filter, namesB_mem, Bool.and_eq_true, decide_eq_true_eq, decide_eq_true_eq] in
#guard_msgs (pass all) in open Nat
theorem nearN_sub {nb : NB} {x y : Str} (h : y ∈ nearN nb x) : y ∈ nb.map (·.1) := (nearN_mem.mp h).1
/-- the neighbours of a name that stands -/
def nbN (nb : NB) (x : Str) : List Str := if x ∈ nb.map (·.1) then nearN nb x else []
theorem nbN_mem {nb : NB} {x y : Str} (h : y ∈ nbN nb x) : x ∈ nb.map (·.1) ∧ y ∈ nearN nb x := by
  unfold nbN at h
  split at h
  · exact ⟨by assumption, h⟩
  · cases h in
#guard_msgs (pass all) in open Nat
end DL
namespace DL
open PySem PySem.Spec PyProof.Rows L2
section
variable {X : Cx} {W : WX} {K : PySem.W.Frag} {σ : L2.St} {H : Hp}
variable {i : Nat} {y : Str} {py pos spos : Pos} {kx vx tg iter : Expr} {ifs : List Expr} {scope : Scope} {own : List (Str × Nat)} {wi : WI} {g : TG} {gd : WG} {wt : WT} {wk wv : DL.WE}
/-- behind a statement the slot's dict is data -/
def sLockA (i : Nat) (u : WS) : WS := fun f ρ cs => u { f with nx := fun ρ' cs' => ∃ p kvs, ρ'[i]? = some (some (.opq (.ref p))) ∧ look p cs' = some (.dic kvs) ∧ f.nx (ρ'.set i (some (.dic kvs))) (del p cs') } ρ cs
theorem q_lockA {i : Nat} {ρ : DL.Env} {cs : Cs} {u : WS} {nx bk ct : DL.Env → Cs → Prop} {rt : D → Cs → Prop} {ex : Exn → DL.Env → Cs → Prop} (h : u ⟨fun ρ' cs' => ∃ p kvs, ρ'[i]? = some (some (.opq (.ref p))) ∧ look p cs' = some (.dic kvs) ∧ nx (ρ'.set i (some (.dic kvs))) (del p cs'), rt, ex, bk, ct⟩ ρ cs) : sLockA i u ⟨nx, rt, ex, bk, ct⟩ ρ cs := h
end
end DL
namespace DL
open PySem PySem.Spec PyProof.Rows L2
structure Grid where
  m : Nat
  n : Nat → Nat
  Y : Nat → Rat
  X : Nat → Nat → Rat
  x0 : Rat
  x1 : Rat
structure Grid.Ok (G : Grid) : Prop where
  y : ∀ i, i < G.m → G.Y i < G.Y (i + 1)
  x : ∀ i j, i < G.m → j < G.n i → G.X i j < G.X i (j + 1)
  b : ∀ i, i < G.m → G.X i 0 = G.x0
  e : ∀ i, i < G.m → G.X i (G.n i) = G.x1
def Grid.cell (G : Grid) (i j : Nat) : Bx := ⟨G.X i j, G.Y i, G.X i (j + 1) - G.X i j, G.Y (i + 1) - G.Y i⟩
def Grid.cells (G : Grid) : List Bx := (List.range G.m).flatMap fun i => (List.range (G.n i)).map (G.cell i)
def Bx.tr (b : Bx) : Bx := ⟨b.t, b.l, b.h, b.w⟩
def Dn (N : Nat) (r : Rat) : Prop := ∃ z : Int, r * ((N : Int) : Rat) = (z : Rat)
theorem Dn.add {N : Nat} {r s : Rat} (a : Dn N r) (b : Dn N s) : Dn N (r + s) := by
  obtain ⟨z, hz⟩ := a
  obtain ⟨y, hy⟩ := b
  exact ⟨z + y, by rw [Rat.add_mul, hz, hy, Rat.intCast_add]⟩ in
#guard_msgs (pass all) in open Nat
theorem Dn.sub {N : Nat} {r s : Rat} (a : Dn N r) (b : Dn N s) : Dn N (r - s) := by
  obtain ⟨z, hz⟩ := a
  obtain ⟨y, hy⟩ := b
  refine ⟨z - y, ?_⟩
  rw [Rat.intCast_sub, ← hz, ← hy]; grind in
#guard_msgs (pass all) in open Nat
theorem Dn.zero (N : Nat) : Dn N 0 := ⟨0, by rw [Rat.zero_mul]; rfl⟩
theorem Dn.sum {N : Nat} : ∀ {l : List Rat}, (∀ r ∈ l, Dn N r) → Dn N l.sum
  | [], _ => Dn.zero N
  | r :: l, h => by
    rw [List.sum_cons]
    exact (h r (List.mem_cons_self ..)).add (Dn.sum fun s hs => h s (List.mem_cons_of_mem _ hs))
theorem Dn.den (x : Rat) : Dn x.den x := by
  have e := Rat.num_divInt_den x
  rw [Rat.divInt_eq_div] at e
  have hd : (((x.den : Int)) : Rat) ≠ 0 := fun q => den_ne x (Rat.intCast_eq_zero_iff.mp q)
  have e2 := Rat.div_mul_cancel (a := (x.num : Rat)) hd
  rw [e] at e2
  exact ⟨x.num, e2⟩ in
#guard_msgs (pass all) in open Nat
end DL
namespace DL
open PySem PySem.Spec PyProof.Rows L2
section
variable {X : Cx}
def tSetSl (tv to : TE) (tl th : TO) : TS := fun D σ H => tv σ H fun y H1 => to σ H1 fun x H2 => tl σ H2 fun i H3 => th σ H3 fun j H4 => ∃ (l b : Addr) (xs ys : List V) (a c : Int), x = .ref l ∧ y = .ref b ∧ i = some a ∧ j = some c ∧ H4 l = some (.lst xs) ∧ H4 b = some (.lst ys) ∧ l ≠ b ∧
  0 ≤ a ∧ a ≤ c ∧ c ≤ xs.length ∧ xs.length + ys.length ≤ sizeLine ∧ D.nx σ (upd H4 l (.lst (xs.take a.toNat ++ ys ++ xs.drop c.toNat)))
theorem ps_setSl {o v : Expr} {lo hi : Option Expr} {tv to : TE} {tl th : TO} {p2 p1 pos : Pos} (hv : PE X v tv) (ho : PE X o to) (hl : PO X lo tl) (hu : PO X hi th) (hs : swapsWith v (some (.Subscript o (.Slice lo hi none p2) p1)) pos.line X.env = pure false := by rfl) :
    PS X (.Assign [.Subscript o (.Slice lo hi none p2) p1] v pos) (tSetSl tv to tl th) := by
  refine ⟨fun pins s σ H D I h => ?_⟩
  refine wpAny_Assign_Subscript (thn (hv.run pins s σ H _ I h) fun u0 s1 ⟨y, H1, I1, ry, q1⟩ => thn (ho.run pins s1 σ H1 _ I1 q1) fun u1 s2 ⟨x, H2, I2, rx, q2⟩ => ?_) hs
  refine wpAny_Slice (thn (hl.run pins s2 σ H2 _ I2 q2) fun vl s3 ⟨i, H3, I3, pl, q3⟩ => thn (hu.run pins s3 σ H3 _ I3 q3) fun vu s4 ⟨j, H4, I4, pu, q4⟩ => ?_)
  rw [evalPart_none]
  refine wpAny_pure ?_
  obtain ⟨l, b, xs, ys, a, c, rfl, rfl, rfl, rfl, e1, e2, ne, h0, h1, h2, hz, q⟩ := q4
  cases ry
  cases rx
  cases pl with
  | int a' ta =>
  cases pu with
  | int c' tc =>
  have I5 : Inv X pins σ H4 { s4 with heap := s4.heap.push { cls := .type "slice", data := .fields #[.int a ta, .int c tc, .none] } } := I4.kept (t' := s4.toks) fun b ob q => Heap.get?_push_of_some _ q
  exact set_slice I5 e1 e2 ne (Heap.IsSliceOf.new ..) ⟨ta, rfl⟩ ⟨tc, rfl⟩ h0 h1 h2 hz fun s' J => ⟨σ, _, J, q⟩ in
#guard_msgs (pass all) in open Nat
end
section
variable {X : Cx} {W : WX} {K : PySem.W.Frag}
def sSetSl (wv wo : DL.WE) (wl wh : WO) : WS := fun f ρ cs => wv ρ cs (fun y cs1 => wo ρ cs1 (fun x cs2 => wl ρ cs2 (fun i cs3 => wh ρ cs3 (fun j cs4 => ∃ (p q : Addr) (xs ys : List D) (a c : Int), x = .opq (.ref p) ∧ y = .opq (.ref q) ∧ i = some a ∧ j = some c ∧ look p cs4 = some (.lst xs) ∧ look q cs4 = some (.lst ys) ∧ p ≠ q ∧
  0 ≤ a ∧ a ≤ c ∧ c ≤ xs.length ∧ xs.length + ys.length ≤ 100000 ∧ f.nx ρ (put p (.lst (xs.take a.toNat ++ ys ++ xs.drop c.toNat)) cs4)) (fun x cs1 => f.ex x ρ cs1)) (fun x cs1 => f.ex x ρ cs1)) (fun x cs1 => f.ex x ρ cs1)) (fun x cs1 => f.ex x ρ cs1)
theorem ds_setSl {o v : Expr} {lo hi : Option Expr} {wv wo : DL.WE} {wl wh : WO} {p2 p1 pos : Pos} (hv : DE X W v wv) (ho : DE X W o wo) (hl : DOp X W lo wl) (hu : DOp X W hi wh) (hs : swapsWith v (some (.Subscript o (.Slice lo hi none p2) p1)) pos.line X.env = pure false := by rfl) :
    DS X W (.Assign [.Subscript o (.Slice lo hi none p2) p1] v pos) (sSetSl wv wo wl wh) := PS.imp (ps_setSl hv ho hl hu hs) fun E σ H h => by
  obtain ⟨F, cs, ρ, f, s, re, hw, pe⟩ := h
  refine ⟨F, cs, ρ, _, _, s, re, hw, fun H1 cs1 y dy s1 r1 h1 => ?_, pe.px re⟩
  refine ⟨F, cs1, ρ, _, _, s1.self, re.mono s1.gr, h1, fun H2 cs2 x dx s2 r2 h2 => ?_, (pe.le s1.gr).px (re.mono s1.gr)⟩
  have g2 := s1.gr.trans s2.gr
  refine ⟨F, cs2, ρ, _, _, s2.self, re.mono g2, h2, fun H3 cs3 i s3 h3 => ?_, (pe.le g2).px (re.mono g2)⟩
  have g3 := g2.trans s3.gr
  refine ⟨F, cs3, ρ, _, _, s3.self, re.mono g3, h3, fun H4 cs4 j s4 h4 => ?_, (pe.le g3).px (re.mono g3)⟩
  obtain ⟨p, q, xs, ys, a, c, rfl, rfl, rfl, rfl, l1, l2, ne, a0, a1, a2, hz, h5⟩ := h4
  cases r1
  cases r2
  obtain ⟨vs, e1, m1⟩ := lst_at s4 l1
  obtain ⟨us, e2, m2⟩ := lst_at s4 l2
  have s5 := s4.put l1 (m' := .lst (xs.take a.toNat ++ ys ++ xs.drop c.toNat)) (o' := .lst (vs.take a.toNat ++ us ++ vs.drop c.toNat)) (((m1.take _).append m2).append (m1.drop _))
  refine ⟨p, q, vs, us, a, c, rfl, rfl, rfl, rfl, e1, e2, ne, a0, a1, by rw [m1.length]; exact a2, by rw [m1.length, m2.length]; exact Nat.le_trans hz (by decide), ?_⟩
  have g := g3.trans s4.gr
  exact pe.nx _ _ σ ρ (s5.from_ g) (re.mono (g.trans s5.gr)) h5 in
#guard_msgs (pass all) in open Nat
/-- [..] * n, a list that will change -/
def wLRepM (w : WA) (wb : DL.WE) : DL.WE := fun ρ cs P Z => w ρ cs (fun ds cs1 => wb ρ cs1 (fun y cs2 => ∃ k : Nat, y = .int (k : Int) ∧ ds.length * k ≤ 100000 ∧ k ≤ 100000 ∧ ∀ q, q ∉ adr cs2 → P (.opq (.ref q)) ((q, .lst (List.replicate k ds).flatten) :: cs2)) Z) Z
theorem d_lrepM {b : Expr} {es : List Expr} {w : WA} {wb : DL.WE} {p1 pos : Pos} (h : DA X W es w) (hb : DE X W b wb) (hn : es.length ≤ 1000 := by decide) : DE X W (.BinOp (.List es p1) .Mult b pos) (wLRepM w wb) :=
  PE.imp (pe_op L2.op_rep (pe_lst h) hb) fun σ H Q hq => by
    obtain ⟨F, cs, ρ, P, Z, s, re, hw, pe, px⟩ := hq
    refine ⟨F, cs, ρ, _, Z, s, re, hw, fun H1 cs1 vs ds s1 r1 l1 h1 => ⟨by rw [r1.length, l1]; exact small_es hn, fun p hp => ?_⟩, px⟩
    obtain ⟨s2, e2⟩ := s1.new (o := .lst vs) hp
    refine ⟨F, cs1, ρ, _, Z, s2.self, re.mono (s1.gr.trans s2.gr), h1, fun H2 cs2 v d s3 r3 h3 => ?_, px.le (s1.gr.trans s2.gr)⟩
    obtain ⟨k, rfl, hk, hk2, h4⟩ := h3
    cases r3
    refine ⟨p, k, vs, rfl, rfl, pur_le _ _ (s3.gr _ _ e2), by omega, by omega, ?_, fun p2 hp2 => ?_⟩
    · rw [r1.length]
      have e : ((k : Int)).toNat = k := by omega
      rw [e]
      exact Nat.le_trans hk (by decide)
    · rw [show ((k : Int)).toNat = k by omega]
      have s4 := s3.newM (m := .lst (List.replicate k ds).flatten) (o := .lst (List.replicate k vs).flatten) hp2 ((r1.mono (s2.gr.trans s3.gr)).rep k)
      exact pe _ _ _ _ (s4.from_ ((s1.gr.trans s2.gr).trans s3.gr)) (.opq _) (h4 p2 (s3.notin hp2).2) in
#guard_msgs (pass all) in open Nat
end
section
variable {ρ : DL.Env} {cs : Cs} {P : DP} {Z : XZ} {w : WA} {wb wv wo : DL.WE} {wl wh : WO} {nx bk ct : DL.Env → Cs → Prop} {rt : D → Cs → Prop} {ex : Exn → DL.Env → Cs → Prop}
theorem q_setSl (h : wv ρ cs (fun y cs1 => wo ρ cs1 (fun x cs2 => wl ρ cs2 (fun i cs3 => wh ρ cs3 (fun j cs4 => ∃ (p q : Addr) (xs ys : List D) (a c : Int), x = .opq (.ref p) ∧ y = .opq (.ref q) ∧ i = some a ∧ j = some c ∧ look p cs4 = some (.lst xs) ∧ look q cs4 = some (.lst ys) ∧ p ≠ q ∧
  0 ≤ a ∧ a ≤ c ∧ c ≤ xs.length ∧ xs.length + ys.length ≤ 100000 ∧ nx ρ (put p (.lst (xs.take a.toNat ++ ys ++ xs.drop c.toNat)) cs4)) (fun x cs1 => ex x ρ cs1)) (fun x cs1 => ex x ρ cs1)) (fun x cs1 => ex x ρ cs1)) (fun x cs1 => ex x ρ cs1)) : sSetSl wv wo wl wh ⟨nx, rt, ex, bk, ct⟩ ρ cs := h in
#guard_msgs (pass all) in open Nat
theorem r_lrepM (h : w ρ cs (fun ds cs1 => wb ρ cs1 (fun y cs2 => ∃ k : Nat, y = .int (k : Int) ∧ ds.length * k ≤ 100000 ∧ k ≤ 100000 ∧ ∀ q, q ∉ adr cs2 → P (.opq (.ref q)) ((q, .lst (List.replicate k ds).flatten) :: cs2)) Z) Z) : wLRepM w wb ρ cs P Z := h
end
def lnR (r : Rat) (W n : Int) : Int := -(((r.den : Int) * W - 2 * (r.num * n)) / (2 * ((r.den : Int) * W)))
def covS (W H C R : Int) (b : Bx) (r c : Nat) : Bool := (decide (lnR b.l W C ≤ (c : Int)) && decide ((c : Int) < lnR (b.l + b.w) W C)) && (decide (lnR b.t H R ≤ (r : Int)) && decide ((r : Int) < lnR (b.t + b.h) H R))
def cellS (W H C R : Int) (nb : NB) (r c : Nat) : Str := nb.foldl (fun acc q => if covS W H C R q.2 r c = true then q.1 else acc) ""
def rowF (f : Nat → Nat → Str) (C r : Nat) : List Str := (List.range C).map (f r)
/-- the rows at ps, told at q; what stood ahead (cs) stands -/
structure RowsAt (cs : Cs) (f : Nat → Nat → Str) (R C : Nat) (q : Addr) (ps : List Addr) (cs' : Cs) : Prop where
  out : look q cs' = some (.lst (ps.map fun p => .opq (.ref p)))
  len : ps.length = R
  row : ∀ (r : Nat) (p : Addr), ps[r]? = some p → look p cs' = some (.lst ((rowF f C r).map D.str))
  nd : ps.Nodup
  qn : q ∉ ps
  fr : ∀ a m, look a cs = some m → look a cs' = some m ∧ a ≠ q ∧ a ∉ ps
theorem RowsAt.put {cs cs' : Cs} {f : Nat → Nat → Str} {R C r : Nat} {q p : Addr} {ps : List Addr} (h : RowsAt cs f R C q ps cs') (hp : ps[r]? = some p) {g : Nat → Nat → Str} (hg : ∀ j, j ≠ r → rowF g C j = rowF f C j) : RowsAt cs g R C q ps (put p (.lst ((rowF g C r).map D.str)) cs') := by
  have hm := List.mem_of_getElem? hp
  have hq : q ≠ p := fun e => h.qn (e ▸ hm)
  refine ⟨by rw [look_put_ne hq]; exact h.out, h.len, fun j p' hj => ?_, h.nd, h.qn, fun a m ha => ?_⟩
  · by_cases e : p' = p
    · subst e
      have ej : j = r := by
        obtain ⟨hj1, hj2⟩ := List.getElem?_eq_some_iff.mp hj
        obtain ⟨hr1, hr2⟩ := List.getElem?_eq_some_iff.mp hp
        exact (List.getElem_inj h.nd).mp (hj2.trans hr2.symm)
      subst ej
      exact look_put (h.row j p' hj)
    · rw [look_put_ne e, hg j (fun ej => e (by subst ej; rw [hj] at hp; exact Option.some.inj hp))]
      exact h.row j p' hj
  · obtain ⟨a1, a2, a3⟩ := h.fr a m ha
    have hap : a ≠ p := fun e => a3 (by rw [e]; exact hm)
    exact ⟨by rw [look_put_ne hap]; exact a1, a2, a3⟩ in
#guard_msgs (pass all) in open Nat
theorem look_in {cs : Cs} {p : Addr} {m : MO} (h : look p cs = some m) : p ∈ adr cs := List.mem_map.mpr ⟨(p, m), look_mem h, rfl⟩
theorem RowsAt.del {cs cs' : Cs} {f : Nat → Nat → Str} {R C : Nat} {q z : Addr} {ps : List Addr} {m : MO} (h : RowsAt cs f R C q ps ((z, m) :: cs')) (hz : z ∉ adr cs') (z1 : z ≠ q) (z2 : z ∉ ps) (z3 : look z cs = none) : RowsAt cs f R C q ps cs' := by
  have ne : ∀ {a : Addr}, a ≠ z → look a ((z, m) :: cs') = look a cs' := fun {a} e => look_cons_ne e
  refine ⟨by rw [← ne (Ne.symm z1)]; exact h.out, h.len, fun r p hp => ?_, h.nd, h.qn, fun a u ha => ?_⟩
  · rw [← ne (fun e => z2 (e ▸ List.mem_of_getElem? hp))]; exact h.row r p hp
  · obtain ⟨a1, a2, a3⟩ := h.fr a u ha
    have : a ≠ z := fun e => by rw [e, z3] at ha; cases ha
    rw [ne this] at a1
    exact ⟨a1, a2, a3⟩ in
#guard_msgs (pass all) in open Nat
end DL
namespace DL
open PySem PySem.Spec PyProof.Rows L2
end DL
namespace DL
open PySem PySem.Spec PyProof.Rows L2
section
variable {X : Cx} {W : WX} {K : PySem.W.Frag} {a b : Expr} {wa wb : DL.WE} {pos : Pos}
def rListDD : List V → Hp → VK → Prop := fun xs H Q => ∃ (a : Addr) (kvs : List (Key × V)), xs = [.ref a] ∧ Rd H a (.dK kvs) ∧ ∀ p, H p = none → Q (.ref p) (upd H p (.lst (kvs.map fun kv => kV kv.1)))
theorem cr_listDD (hc : X.calm = true) : CallR X (.type "list") rListDD := call_listD hc
def oListDD : DOn := fun ds cs P => ∃ (d : D) (kvs : List (Key × D)), ds = [d] ∧ ddAt d cs = some (.inl kvs) ∧ P (.lst (kvs.map fun p => kD p.1)) cs
theorem RG.kds {G : Hp} {xs : List (Key × V)} {ds : List (Key × D)} (h : RG K G xs ds) : RepL K G (xs.map fun p => kV p.1) (ds.map fun p => kD p.1) := by
  have e := h.keys
  rw [show (xs.map fun p => kV p.1) = (xs.map (·.1)).map kV by rw [List.map_map]; rfl, show (ds.map fun p => kD p.1) = (ds.map (·.1)).map kD by rw [List.map_map]; rfl, e]
  exact ksD_rep _ in
#guard_msgs (pass all) in open Nat
theorem adq_listDD : AdqN K rListDD oListDD := fun F cs H xs ds P Q s r ho pe => by
  obtain ⟨d, kvs, rfl, hd, h⟩ := ho
  cases r with
  | cons r1 r2 =>
  cases r2
  obtain ⟨p, vs, rfl, h1, h2⟩ := dd_k s r1 hd
  refine ⟨p, vs, rfl, h1, fun q hq => ?_⟩
  obtain ⟨s2, e2⟩ := s.new (o := .lst (vs.map fun kv => kV kv.1)) hq
  exact pe _ cs _ _ s2 (.lst (SqL.of e2) (h2.kds.mono s2.gr)) h
def oListDM : DOn := fun ds cs P => ∃ (d : D) (kvs : List (Key × D)), ds = [d] ∧ ddAt d cs = some (.inl kvs) ∧ ∀ q, q ∉ adr cs → P (.opq (.ref q)) ((q, .lst (kvs.map fun p => kD p.1)) :: cs)
theorem r_listDD {kvs : List (Key × D)} {cs : Cs} {P : DP} (h : P (.lst (kvs.map fun p => kD p.1)) cs) : oListDD [.dic kvs] cs P := ⟨_, kvs, rfl, rfl, h⟩
theorem r_listDM {kvs : List (Key × D)} {cs : Cs} {P : DP} (h : ∀ q, q ∉ adr cs → P (.opq (.ref q)) ((q, .lst (kvs.map fun p => kD p.1)) :: cs)) : oListDM [.dic kvs] cs P := ⟨_, kvs, rfl, rfl, h⟩
def oDictDD : DOn := fun ds cs P => ∃ (d : D) (kvs : List (Key × D)), ds = [d] ∧ ddAt d cs = some (.inl kvs) ∧ ∀ q, q ∉ adr cs → P (.opq (.ref q)) ((q, .dic kvs) :: cs)
theorem r_dictDD {kvs : List (Key × D)} {cs : Cs} {P : DP} (h : ∀ q, q ∉ adr cs → P (.opq (.ref q)) ((q, .dic kvs) :: cs)) : oDictDD [.dic kvs] cs P := ⟨_, kvs, rfl, rfl, h⟩
end
end DL
namespace DL
open PySem PySem.Spec PyProof.Rows L2
section
variable {K : PySem.W.Frag} {F G0 H : Hp} {cs : Cs}
theorem adr_sub {g : Addr × MO → Bool} {a : Addr} (h : a ∈ adr (cs.filter g)) : a ∈ adr cs := by
  obtain ⟨q, hq, rfl⟩ := List.mem_map.mp h
  exact List.mem_map.mpr ⟨q, (List.mem_filter.mp hq).1, rfl⟩ in
#guard_msgs (pass all) in open Nat
theorem Sta.sub (s : Sta K F G0 cs H) (g : Addr × MO → Bool) : Sta K F G0 (cs.filter g) H ∧ Ex (pur F cs H) (pur F (cs.filter g) H) := by
  have e : Ex (pur F cs H) (pur F (cs.filter g) H) := fun b u hb => by
    obtain ⟨e1, e2, e3⟩ := pur_of hb
    rw [pur_at e2 fun z => e3 (adr_sub z)]; exact e1
  refine ⟨⟨s.fr, s.gr.trans e, List.Nodup.sublist ((List.filter_sublist).map _) s.nd, fun a h => s.ap a (adr_sub h), fun a m h => ?_, s.ft⟩, e⟩
  obtain ⟨u, hu, r⟩ := s.ow a m (List.mem_filter.mp h).1
  exact ⟨u, hu, r.mono e⟩ in
#guard_msgs (pass all) in open Nat
/-- two things at one place -/
theorem nd_at : ∀ {cs : Cs} {a : Addr} {m n : MO}, (adr cs).Nodup → (a, m) ∈ cs → (a, n) ∈ cs → m = n
  | q :: r, a, m, n, nd, h1, h2 => by
    obtain ⟨n1, n2⟩ := List.nodup_cons.mp (show (q.1 :: adr r).Nodup from nd)
    rcases List.mem_cons.mp h1 with e1 | e1 <;> rcases List.mem_cons.mp h2 with e2 | e2
    · rw [← e1] at e2; cases e2; rfl
    · exact absurd (List.mem_map.mpr ⟨_, e2, by rw [← e1]⟩) n1
    · exact absurd (List.mem_map.mpr ⟨_, e1, by rw [← e2]⟩) n1
    · exact nd_at n2 e1 e2 in
#guard_msgs (pass all) in open Nat
theorem out_of {g : Addr × MO → Bool} (nd : (adr cs).Nodup) {p : Addr} {m : MO} (h : (p, m) ∈ cs) (hg : g (p, m) = false) : p ∉ adr (cs.filter g) := fun z => by
  obtain ⟨⟨a, n⟩, hq, e⟩ := List.mem_map.mp z
  have e' : a = p := e
  subst e'
  obtain ⟨h1, h2⟩ := List.mem_filter.mp hq
  rw [nd_at nd h1 h, hg] at h2
  cases h2
mutual
theorem Lend.frz {g : Addr × MO → Bool} (s : Sta K F G0 cs H) : ∀ {d d' : D} {v : V}, Lend (cs.filter fun q => !g q) d d' → Rep K (pur F cs H) v d → Rep K (pur F (cs.filter g) H) v d'
  | _, _, _, .same d, r => r.mono (s.sub g).2
  | _, _, _, .at_ (p := p) (xs := xs) hl l, r => by
    cases r
    have hm := List.mem_filter.mp (look_mem hl)
    obtain ⟨o, e, m⟩ := s.ow p _ hm.1
    have hg : g (p, MO.lst xs) = false := by simpa using hm.2
    have hp : p ∈ adr cs := List.mem_map.mpr ⟨_, hm.1, rfl⟩
    cases o <;> try exact m.elim
    exact .lst (SqL.of (by rw [pur_at (s.ap p hp) (out_of s.nd hm.1 hg)]; exact e)) (LendL.frz s l m)
  | _, _, _, .tup l, r => by
    cases r with
    | tup h r => exact .tup (ex_t (s.sub g).2 h) (LendL.frz s l r)
  | _, _, _, .lst l, r => by
    cases r with
    | lst h r => exact .lst (ex_l (s.sub g).2 h) (LendL.frz s l r)
theorem LendL.frz {g : Addr × MO → Bool} (s : Sta K F G0 cs H) : ∀ {d d' : List D} {v : List V}, LendL (cs.filter fun q => !g q) d d' → RepL K (pur F cs H) v d → RepL K (pur F (cs.filter g) H) v d'
  | _, _, _, .nil, r => by cases r; exact .nil
  | _, _, _, .cons l ls, r => by
    cases r with
    | cons r rs => exact .cons (Lend.frz s l r) (LendL.frz s ls rs)
end
end
section
variable {X : Cx} {W : WX} {K : PySem.W.Frag} {e : Expr} {we : DL.WE}
/-- a value with all that may change in it is from now on data -/
def wFrzD (we : DL.WE) : DL.WE := fun ρ cs P Z => we ρ cs (fun d cs1 => ∃ (g : Addr × MO → Bool) (d' : D), Lend (cs1.filter fun q => !g q) d d' ∧ P d' (cs1.filter g)) Z
theorem r_frzD {ρ : DL.Env} {cs : Cs} {P : DP} {Z : XZ} (h : we ρ cs (fun d cs1 => ∃ (g : Addr × MO → Bool) (d' : D), Lend (cs1.filter fun q => !g q) d d' ∧ P d' (cs1.filter g)) Z) : wFrzD we ρ cs P Z := h
end
def szD (d : D) (m : Int) : Bool := match d with
  | .int a => decide (1 ≤ a ∧ a ≤ m)
  | _ => false
theorem fold_one {α : Type} {p : α → Bool} {nm : α → Str} : ∀ {l : List α} {a : α} {z : Str}, a ∈ l → p a = true → (∀ b ∈ l, p b = true → b = a) → l.foldl (fun acc q => if p q = true then nm q else acc) z = nm a
  | q :: l, a, z, ha, pa, hu => by
    rw [List.foldl_cons]
    by_cases e : a ∈ l
    · exact fold_one e pa fun b hb => hu b (List.mem_cons_of_mem _ hb)
    · have eq : a = q := by
        rcases List.mem_cons.mp ha with h | h
        · exact h
        · exact absurd h e
      subst eq
      rw [if_pos pa]
      have : ∀ (l : List α) (z : Str), (∀ b ∈ l, p b = false) → l.foldl (fun acc q => if p q = true then nm q else acc) z = z := by
        intro l
        induction l with
        | nil => intro z _; rfl
        | cons b l ih =>
          intro z h
          rw [List.foldl_cons, h b (List.mem_cons_self ..)]
          exact ih z fun c hc => h c (List.mem_cons_of_mem _ hc)
      exact this l _ fun b hb => by
        cases hp : p b with
        | false => rfl
        | true => exact absurd (hu b (List.mem_cons_of_mem _ hb) hp ▸ hb) e in
#guard_msgs (pass all) in open Nat
/-- the things of boxes that part a whole: each square lies in one -/
def OneAt (W H : Int) (C R : Nat) (nb : NB) : Prop := ∀ r c, r < R → c < C → ∃ q ∈ nb, covS W H C R q.2 r c = true ∧ ∀ q' ∈ nb, covS W H C R q'.2 r c = true → q' = q
theorem OneAt.cell {W H : Int} {C R : Nat} {nb : NB} (h : OneAt W H C R nb) {r c : Nat} (hr : r < R) (hc : c < C) : ∃ q ∈ nb, cellS W H C R nb r c = q.1 ∧ covS W H C R q.2 r c = true ∧ ∀ q' ∈ nb, covS W H C R q'.2 r c = true → q' = q := by
  obtain ⟨q, hq, hcov, hu⟩ := h r c hr hc
  exact ⟨q, hq, fold_one (p := fun q : Str × Bx => covS W H C R q.2 r c) (nm := fun q => q.1) hq hcov hu, hcov, hu⟩ in
#guard_msgs (pass all) in open Nat
section
variable {X : Cx} {W : WX} {K : PySem.W.Frag} {e : Expr} {w : WA} {pos : Pos}
def enumD (xs : List D) : List D := xs.mapIdx fun i x => D.tup [.int (i : Int), x]
def iEn (w : WA) : WI := fun ρ cs P Z => w ρ cs (fun ds cs1 => ∃ xs, ds = [.lst xs] ∧ P (enumD xs) cs1) Z
theorem r_enum {ρ : DL.Env} {cs : Cs} {Z : XZ} {R : List D → Cs → Prop} (h : w ρ cs (fun ds cs1 => ∃ xs, ds = [.lst xs] ∧ R (enumD xs) cs1) Z) : iEn w ρ cs R Z := h
end
end DL
namespace DL
open PySem PySem.Spec PyProof.Rows L2 LamX
def tLostD (fl : Str) (L : List Str) (we : DL.WE) : DL.WE := fun ρ cs P Z => we ρ cs (fun _ cs1 => P .non cs1) (fun x cs1 => x.cls ∈ L ∧ ∃ y, x.fs.lookup fl = some y ∧ P y cs1)
theorem r_lost {fl : Str} {L : List Str} {we : DL.WE} {ρ : DL.Env} {cs : Cs} {P : DP} {Z : XZ} (h : we ρ cs (fun _ cs1 => P .non cs1) (fun x cs1 => x.cls ∈ L ∧ ∃ y, x.fs.lookup fl = some y ∧ P y cs1)) : tLostD fl L we ρ cs P Z := h
end DL
namespace DL
open PySem PySem.Spec PyProof.Rows L2
def keyT (e : Int × Value) : Str := match e.2 with | .str k _ => k | _ => Str.empty
def GoodT (w : World) (e : Int × Value) : Prop := ∃ k u, e.2 = Value.str k u ∧ e.1 = hashStr w k
/-- the set of texts at a: l its members in the order of its table -/
def SetX (w : World) (h : Heap) (a : Addr) (l : List Str) : Prop :=
  ∃ o es ep t, h.get? a = some o ∧ o.ExactSet ∧ o.data = .set es ep t ∧ (∀ e ∈ es.toList, GoodT w e) ∧ es.toList.map keyT = l ∧ l.Nodup ∧
    es.size < scanBound ∧ t.fits es.size = true ∧ Ris t.place.toList ∧ (w.params.followText "set-order" = true ∨ t.led = true)
section
variable {P : Program} {w : World} {h h' : Heap} {a : Addr} {l : List Str}
theorem SetX.at (R : SetX w h a l) (k : ∀ o, h.get? a = some o → h'.get? a = some o) : SetX w h' a l := by
  obtain ⟨o, es, ep, t, ho, r⟩ := R
  exact ⟨o, es, ep, t, k o ho, r⟩ in
#guard_msgs (pass all) in open Nat
end
/-- l holds what stands in ks -/
structure GotX (ks l : List Str) : Prop where
  mem : ∀ x, x ∈ l ↔ x ∈ ks
  nd : l.Nodup
theorem GotX.len {ks l : List Str} (g : GotX ks l) : l.length ≤ ks.length := nodup_le g.nd fun x hx => (g.mem x).mp hx
theorem GotX.same {ks l : List Str} {x : Str} (g : GotX ks l) (h : x ∈ l) : GotX (ks ++ [x]) l := ⟨fun y => by
  rw [List.mem_append, List.mem_singleton, ← g.mem y]
  exact ⟨.inl, fun z => z.elim id fun e => e ▸ h⟩, g.nd⟩
theorem GotX.more {ks l l' : List Str} {x : Str} (g : GotX ks l) (h : x ∉ l) (p : l'.Perm (x :: l)) : GotX (ks ++ [x]) l' := ⟨fun y => by
  rw [p.mem_iff, List.mem_cons, List.mem_append, List.mem_singleton, g.mem y]
  exact Or.comm, p.nodup_iff.mpr (List.nodup_cons.mpr ⟨h, g.nd⟩)⟩
section
variable {X : Cx} {W : WX} {K : PySem.W.Frag} {e : Expr} {we : DL.WE} {pos : Pos}
def wLenSetX (we : DL.WE) : DL.WE := fun ρ cs P Z => we ρ cs (fun d cs1 => ∃ ks : List Str, lstOf cs1 d = some (ks.map D.str) ∧ ks.length < 4000 ∧ ∀ l : List Str, GotX ks l → P (.int (l.length : Int)) cs1) Z
def wSortSetX (we : DL.WE) : DL.WE := fun ρ cs P Z => we ρ cs (fun d cs1 => ∃ ks : List Str, lstOf cs1 d = some (ks.map D.str) ∧ ks.length < 4000 ∧ ∀ l : List Str, GotX ks l → l.length < 64 ∧ P (.lst ((sortN l).map D.str)) cs1) Z
end
section
variable {ρ : DL.Env} {cs : Cs} {P : DP} {Z : XZ} {we : DL.WE}
theorem r_lenSetX (h : we ρ cs (fun d cs1 => ∃ ks : List Str, lstOf cs1 d = some (ks.map D.str) ∧ ks.length < 4000 ∧ ∀ l : List Str, GotX ks l → P (.int (l.length : Int)) cs1) Z) : wLenSetX we ρ cs P Z := h
theorem r_sortSetX (h : we ρ cs (fun d cs1 => ∃ ks : List Str, lstOf cs1 d = some (ks.map D.str) ∧ ks.length < 4000 ∧ ∀ l : List Str, GotX ks l → l.length < 64 ∧ P (.lst ((sortN l).map D.str)) cs1) Z) : wSortSetX we ρ cs P Z := h
end
theorem Wk.at_ {N : Str → List Str} : ∀ {a b : Str} {r : List Str}, Wk N a r b → ∀ (i : Nat) (u v : Str), (a :: r)[i]? = some u → (a :: r)[i + 1]? = some v → v ∈ N u
  | a, b, [], _, i, u, v, _, h2 => by rw [List.getElem?_cons_succ] at h2; simp at h2
  | a, b, x :: r, h, 0, u, v, h1, h2 => by
    have e1 : a = u := Option.some.inj h1
    have e2 : x = v := Option.some.inj h2
    rw [← e1, ← e2]; exact h.1
  | a, b, x :: r, h, i + 1, u, v, h1, h2 => Wk.at_ h.2 i u v h1 h2 in
#guard_msgs (pass all) in open Nat
end DL
namespace DL
open PySem PySem.Spec PyProof.Rows L2
section
variable {N : Str → List Str}
theorem Dst.of {a b : Str} : ∀ (n : Nat) {s : List Str}, s.length = n → Wk N a s b → ∃ j, j ≤ n ∧ Dst N a b j := by
  intro n
  induction n using Nat.strongRecOn with
  | _ n ih =>
    intro s e w
    by_cases h : ∃ t : List Str, t.length < n ∧ Wk N a t b
    · obtain ⟨t, ht, wt⟩ := h
      obtain ⟨j, hj, d⟩ := ih t.length ht rfl wt
      exact ⟨j, by omega, d⟩
    · refine ⟨n, Nat.le_refl _, ⟨s, e, w⟩, fun t wt => ?_⟩
      rcases Nat.lt_or_ge t.length n with c | c
      · exact absurd ⟨t, c, wt⟩ h
      · exact c in
#guard_msgs (pass all) in open Nat
theorem Dst.no {a : Str} {k : Nat} (h : ∀ c, ¬ Dst N a c k) : ∀ j, k ≤ j → ∀ c, ¬ Dst N a c j := by
  intro j hj
  obtain ⟨i, rfl⟩ := Nat.le.dest hj
  clear hj
  induction i with
  | zero => exact h
  | succ i ih =>
    intro c d
    obtain ⟨c', d', _⟩ := d.pred
    exact ih c' d' in
#guard_msgs (pass all) in open Nat
/-- the ways of k steps, each the first to its end -/
structure LvW (N : Str → List Str) (a : Str) (k : Nat) (rs : List (Str × List Str)) : Prop where
  fst : ∀ q ∈ rs, q.2.length = k ∧ FstW leS N a q.1 q.2
  all : ∀ c, Dst N a c k → c ∈ rs.map (·.1)
  nd : (rs.map (·.1)).Nodup
structure SeenW (N : Str → List Str) (a : Str) (k : Nat) (sn : List Str) : Prop where
  mem : ∀ x, x ∈ sn ↔ ∃ j, j ≤ k ∧ Dst N a x j
  nd : sn.Nodup
theorem LvW.start (a : Str) : LvW N a 0 [(a, [])] := ⟨fun q hq => by rw [List.mem_singleton.mp hq]; exact ⟨rfl, FstW.nil a⟩, fun c d => by
  obtain ⟨s, e, w⟩ := d.way
  rw [List.length_eq_zero_iff.mp e] at w
  rw [← (show a = c from w)]; simp, by simp⟩
theorem SeenW.start (a : Str) : SeenW N a 0 [a] := ⟨fun x => by
  rw [List.mem_singleton]
  constructor
  · rintro rfl; exact ⟨0, Nat.le_refl _, Dst.zero _⟩
  · rintro ⟨j, hj, d⟩
    obtain ⟨s, e, w⟩ := d.way
    rw [List.length_eq_zero_iff.mp (by omega : s.length = 0)] at w
    exact (show a = x from w).symm, by simp⟩
end
theorem LvW.le {nb : NB} {x : Str} (hx : x ∈ nb.map (·.1)) {k : Nat} {rs : List (Str × List Str)} (h : LvW (nbN nb) x k rs) : (∀ q ∈ rs, q.1 ∈ nb.map (·.1)) ∧ rs.length ≤ nb.length := by
  have sub : ∀ q ∈ rs, q.1 ∈ nb.map (·.1) := fun q hq => by
    have f := (h.fst q hq).2
    match e : q.2, f.w with
    | [], w => rw [← (show x = q.1 from w)]; exact hx
    | z :: r, w =>
      have l := w.last
      rw [List.getLast?_cons_cons] at l
      obtain ⟨u, hu⟩ := Wk.mem w q.1 (List.mem_of_getLast? l)
      exact nearN_sub (nbN_mem hu).2
  refine ⟨sub, ?_⟩
  have := nodup_le h.nd fun v hv => by
    obtain ⟨q, hq, rfl⟩ := List.mem_map.mp hv
    exact sub q hq
  rwa [List.length_map, List.length_map] at this in
#guard_msgs (pass all) in open Nat
end DL
namespace DL
open PySem PySem.Spec PyProof.Rows L2
/-- a whole number's text -/
def NumF (z : Str) (i : Int) (m : Nat) : Prop := (FigOk (TL.tl z) m ∧ i = (NumText.digitsVal (TL.tl z) : Nat)) ∨ ∃ l, TL.tl z = 45 :: l ∧ FigOk l m ∧ NumText.digitsVal l ≠ 0 ∧ i = -((NumText.digitsVal l : Nat) : Int)
theorem figOk_minus {l : List Nat} {m : Nat} (h : FigOk (45 :: l) m) : False := by have := h.dig 45 (List.mem_cons_self ..); omega in
#guard_msgs (pass all) in open Nat
theorem NumF.uniq {z : Str} {i j : Int} {m : Nat} (h : NumF z i m) (g : NumF z j m) : i = j := by
  rcases h with ⟨h1, h2⟩ | ⟨l, h1, h2, h3, h4⟩ <;> rcases g with ⟨g1, g2⟩ | ⟨l', g1, g2, g3, g4⟩
  · rw [h2, g2]
  · rw [g1] at h1; exact (figOk_minus h1).elim
  · rw [h1] at g1; exact (figOk_minus g1).elim
  · rw [h1] at g1
    injection g1 with _ e
    rw [h4, g4, e] in
#guard_msgs (pass all) in open Nat
end DL
namespace DL
open PySem PySem.Spec PyProof.Rows L2 LamX
theorem RepE.len {K : PySem.W.Frag} {G : Hp} : ∀ {σ : L2.St} {ρ : Env}, RepE K G σ ρ → σ.length = ρ.length
  | _, _, .nil => rfl
  | _, _, .cons _ r => congrArg Nat.succ r.len
end DL
namespace DL
open PySem PySem.Spec PyProof.Rows L2
section
variable {X : Cx} {CX : CXT} {k n : Nat} {f C : Addr} {fd : FuncData} {ps ks : List Str} {sp : Sp} {dvs : List V} {ds : List Value} {E : L2.St → XK} {x m : Str} {p pos apos : Pos} {e o : Expr} {es : List Expr} {kws : List Keyword} {ta : TE} {t tk : TA} {g : List Value → List Value → List Value} {gV : List V → List V → List V}
def tMethS (C : Addr) (m : Str) (sp : Sp) (dvs : List V) (E : L2.St → XK) (ta : TE) (t : TA) : TE := fun σ H Q => ta σ H fun x H1 => ∃ a dx fs, x = .ref a ∧ H1 a = some (.ins C dx fs) ∧ fs.lookup m = none ∧
  t σ H1 fun vs H2 => sp (x :: (vs ++ dvs)) H2 Q (E σ)
theorem pe_methS {pl : Sem Bool} (he : PE X o ta) (c : Cls X.K C) (hm : Meth X.K C m f) (F : FnOk X.prog X.w X.K X.mg X.base CX k f fd ps sp) (hr : Room k X.A) (hb : Binds X.K fd ps ds) (hd : Vals dvs ds) (hx : ∀ σ, PassesAt CX X σ (E σ)) (ha : PA X (e :: es) t)
    (hst : starEach (e :: es) X.env = (false, eval e X.env) :: starEach es X.env := by rfl) (hpl : (backTo pos (starEach es X.env)).any (·.1) = false := by rfl)
    (ht : eval (.Call (.Attribute o m apos) (e :: es) [] pos) X.env = (do
      let ov ← eval o X.env
      standAt apos.atName
      let (f, first) ← holding [ov] (getMethod ov m pl)
      callWith pos f first (backTo pos (starEach (e :: es) X.env)) (backToKw pos (keywordEach [] X.env))) := by rfl) :
    PE X (.Call (.Attribute o m apos) (e :: es) [] pos) (tMethS C m sp dvs E ta t) := by
  refine ⟨fun pins s σ H Q I h => ?_⟩
  refine PySem.W.methodCall_KW (pl := pl) (thn (he.run pins s σ H _ I h) fun u s1 ⟨x, H1, I1, rx, a, dx, fs, ex, ea, l, q⟩ => ?_) ht
  subst ex
  obtain rfl : u = Value.ref a := rx
  refine getmeth_ok I1 ea c hm l ?_
  refine PySem.W.callWith_K (first := [.ref a]) (h₀ := X.base) I.ok.mod.kin hm.kp (thn (ha.run pos pins s1 σ H1 _ I1 q) fun us s2 ⟨vs, H2, I2, r, q2⟩ => ⟨I2.kIn, ?_⟩) hst hpl
  exact run_fnSD (us := .ref a :: us) (vs := .ref a :: vs) F hr hb hd (hx σ) I2 (.cons rfl r) q2 in
#guard_msgs (pass all) in open Nat
theorem pe_methS0 {pl : Sem Bool} (he : PE X o ta) (c : Cls X.K C) (hm : Meth X.K C m f) (F : FnOk X.prog X.w X.K X.mg X.base CX k f fd ps sp) (hr : Room k X.A) (hb : Binds X.K fd ps ds) (hd : Vals dvs ds) (hx : ∀ σ, PassesAt CX X σ (E σ))
    (ht : eval (.Call (.Attribute o m apos) [] [] pos) X.env = (do
      let ov ← eval o X.env
      standAt apos.atName
      let (f, first) ← holding [ov] (getMethod ov m pl)
      callWith pos f first (backTo pos (starEach [] X.env)) (backToKw pos (keywordEach [] X.env))) := by rfl) :
    PE X (.Call (.Attribute o m apos) [] [] pos) (tMethS C m sp dvs E ta tNil) := by
  refine ⟨fun pins s σ H Q I h => ?_⟩
  refine PySem.W.methodCall_KW (pl := pl) (thn (he.run pins s σ H _ I h) fun u s1 ⟨x, H1, I1, rx, a, dx, fs, ex, ea, l, q⟩ => ?_) ht
  subst ex
  obtain rfl : u = Value.ref a := rx
  refine getmeth_ok I1 ea c hm l ?_
  exact PySem.W.callWith_K0 (first := [.ref a]) I1.kIn hm.kp (run_fnSD (us := [.ref a]) (vs := [.ref a]) F hr hb hd (hx σ) I1 (.cons rfl .nil) q) in
#guard_msgs (pass all) in open Nat
/-- C(e, .., k = v, ..) -/
def tMakeKS (C : Addr) (n m : Nat) (sp : Sp) (gV : List V → List V → List V) (E : L2.St → XK) (t tk : TA) : TE := fun σ H Q => t σ H fun vs H1 => tk σ H1 fun zs H2 => vs.length = n ∧ zs.length = m ∧ ∀ x dx, H2 x = none → H2 dx = none → dx ≠ x →
  sp (gV (.ref x :: vs) zs) (upd (upd H2 dx (.own x)) x (.ins C dx [])) (fun v H3 => v = .non ∧ Q (.ref x) H3) (E σ)
theorem run_makeKS {pins : List (Addr × Obj)} {σ : L2.St} {H : Hp} {s : Shared} {Q : VK} {us ws : List Value} {vs zs : List V} (M : Mk X.K C f) (F : FnOk X.prog X.w X.K X.mg X.base CX k f fd ps sp) (hr : Room (k + 1) X.A) (hb : KBn X.K fd ps (n + 1) ks g gV) (hx : ∀ σ, PassesAt CX X σ (E σ))
    (I : Inv X pins σ H s) (r : Vals vs us) (rz : Vals zs ws) (l1 : vs.length = n) (l2 : zs.length = ks.length)
    (h : ∀ x dx, H x = none → H dx = none → dx ≠ x → sp (gV (.ref x :: vs) zs) (upd (upd H dx (.own x)) x (.ins C dx [])) (fun v H2 => v = .non ∧ Q (.ref x) H2) (E σ)) :
    wpAny (model X.prog X.w) X.A (call (.ref C) us (ks.zip ws)) (EP X pins σ Q) X.xe s := by
  have hq := h (s.heap.objs.size + 1) s.heap.objs.size (I.hok.fresh (Nat.le_succ _)) (I.hok.fresh (Nat.le_refl _)) (Nat.ne_of_lt (Nat.lt_succ_self _))
  have I2 := Inv.made (C := C) I
  have r1 : Vals (V.ref (s.heap.objs.size + 1) :: vs) (Value.ref (s.heap.objs.size + 1) :: us) := .cons rfl r
  have r2 := hb.rel r1 rz
  have n1 : (Value.ref (s.heap.objs.size + 1) :: us).length = n + 1 := by
    rw [List.length_cons, ← r.length, l1]
  refine wpAny_call (make_map (f := f) I.kIn M.makes M.init (beq_iff_eq.mp M.fn) (codeAny_mono (F.run _ X.stack _ _ ⟨Value.ref (s.heap.objs.size + 1) :: us, ks.zip ws⟩ (g (Value.ref (s.heap.objs.size + 1) :: us) ws) _ _ (E σ) (hr.make C us (ks.zip ws))
    (I2.env0.make C us (ks.zip ws)) (hb.to _ (Value.ref (s.heap.objs.size + 1) :: us) ws I2.kIn n1 (rz.length.symm.trans l2)) r2 hq) fun r s' hq' => ?_))
  cases r with
  | error e => exact hx σ pins _ _ e s' I2 hq'
  | ok fl =>
    cases fl with
    | ret u =>
      obtain ⟨v, H', I3, rv, ev, q3⟩ := I2.after hq'
      subst ev
      exact ⟨rv, ⟨V.ref (s.heap.objs.size + 1), H', I3, rfl, q3⟩⟩
    | next => exact False.elim hq'
    | brk => exact False.elim hq'
    | cont => exact False.elim hq' in
#guard_msgs (pass all) in open Nat
theorem pe_makeKS (M : Mk X.K C f) (F : FnOk X.prog X.w X.K X.mg X.base CX k f fd ps sp) (hr : Room (k + 1) X.A) (hg : Gl X x) (hm : X.mg x = some (.ref C)) (hb : KBn X.K fd ps (n + 1) ks g gV) (hx : ∀ σ, PassesAt CX X σ (E σ)) (ha : PA X (e :: es) t) (hkw : PK X kws tk)
    (hall : (backToKw pos (keywordEach kws X.env)).all (·.1.isSome) = true := by rfl) (hks : (backToKw pos (keywordEach kws X.env)).filterMap (·.1) = ks := by rfl) (hdb : (x == ("__debug__" : Str)) = false := by decide)
    (he : starEach (e :: es) X.env = (false, eval e X.env) :: starEach es X.env := by rfl) (hpl : ((backTo pos (starEach (e :: es) X.env)).any (·.1) || (backToKw pos (keywordEach kws X.env)).any (·.1.isNone)) = false := by rfl) :
    PE X (.Call (.Name x p) (e :: es) kws pos) (tMakeKS C n ks.length sp gV E t tk) := by
  refine ⟨fun pins s σ H Q I h => ?_⟩
  refine wpAny_Call_Name_kw (ld_glob I hg hm ?_ hdb)
  refine PySem.W.callWith_KW (h₀ := X.base) I.ok.mod.kin M.kp hall (thn (ha.run pos pins s σ H _ I h) fun us s1 ⟨vs, H1, I1, r, q⟩ => ?_) hpl he
  refine thn (hkw.run pos pins s1 σ H1 _ I1 q) fun ws s2 ⟨zs, H2, I2, rz, l1, l2, q2⟩ => ⟨I2.kIn, ?_⟩
  rw [hks]
  exact run_makeKS M F hr hb hx I2 r rz l1 l2 q2 in
#guard_msgs (pass all) in open Nat
/-- C(e, ..), the defaults behind -/
def tMakeS (C : Addr) (sp : Sp) (dvs : List V) (E : L2.St → XK) (t : TA) : TE := fun σ H Q => t σ H fun vs H1 => ∀ x dx, H1 x = none → H1 dx = none → dx ≠ x →
  sp (.ref x :: (vs ++ dvs)) (upd (upd H1 dx (.own x)) x (.ins C dx [])) (fun v H2 => v = .non ∧ Q (.ref x) H2) (E σ)
theorem run_makeS {pins : List (Addr × Obj)} {σ : L2.St} {H : Hp} {s : Shared} {Q : VK} {us : List Value} {vs : List V} (M : Mk X.K C f) (F : FnOk X.prog X.w X.K X.mg X.base CX k f fd ps sp) (hr : Room (k + 1) X.A) (hb : Binds X.K fd ps ds) (hd : Vals dvs ds)
    (hx : ∀ σ, PassesAt CX X σ (E σ)) (I : Inv X pins σ H s) (r : Vals vs us)
    (h : ∀ x dx, H x = none → H dx = none → dx ≠ x → sp (.ref x :: (vs ++ dvs)) (upd (upd H dx (.own x)) x (.ins C dx [])) (fun v H2 => v = .non ∧ Q (.ref x) H2) (E σ)) :
    wpAny (model X.prog X.w) X.A (call (.ref C) us) (EP X pins σ Q) X.xe s := by
  have hq := h (s.heap.objs.size + 1) s.heap.objs.size (I.hok.fresh (Nat.le_succ _)) (I.hok.fresh (Nat.le_refl _)) (Nat.ne_of_lt (Nat.lt_succ_self _))
  have I2 := Inv.made (C := C) I
  have r2 : Vals (V.ref (s.heap.objs.size + 1) :: (vs ++ dvs)) (Value.ref (s.heap.objs.size + 1) :: (us ++ ds)) := .cons rfl (r.append hd)
  have hl : (Value.ref (s.heap.objs.size + 1) :: us ++ ds).length = ps.length := by
    have e := r2.length
    rw [F.len _ _ _ _ hq] at e
    exact e.symm
  refine wpAny_call (make_map (f := f) I.kIn M.makes M.init (beq_iff_eq.mp M.fn) (codeAny_mono (F.run _ X.stack _ _ ⟨Value.ref (s.heap.objs.size + 1) :: us, []⟩ (Value.ref (s.heap.objs.size + 1) :: (us ++ ds)) _ _ (E σ) (hr.make C us [])
    (I2.env0.make C us []) (hb _ (Value.ref (s.heap.objs.size + 1) :: us) I2.kIn hl) r2 hq) fun r s' hq' => ?_))
  cases r with
  | error e => exact hx σ pins _ _ e s' I2 hq'
  | ok fl =>
    cases fl with
    | ret u =>
      obtain ⟨v, H', I3, rv, ev, q3⟩ := I2.after hq'
      subst ev
      exact ⟨rv, ⟨V.ref (s.heap.objs.size + 1), H', I3, rfl, q3⟩⟩
    | next => exact False.elim hq'
    | brk => exact False.elim hq'
    | cont => exact False.elim hq' in
#guard_msgs (pass all) in open Nat
theorem pe_makeS (M : Mk X.K C f) (F : FnOk X.prog X.w X.K X.mg X.base CX k f fd ps sp) (hr : Room (k + 1) X.A) (hg : Gl X x) (hm : X.mg x = some (.ref C)) (hb : Binds X.K fd ps ds) (hd : Vals dvs ds) (hx : ∀ σ, PassesAt CX X σ (E σ))
    (ha : PA X (e :: es) t) (hdb : (x == ("__debug__" : Str)) = false := by decide) (he : starEach (e :: es) X.env = (false, eval e X.env) :: starEach es X.env := by rfl) (hpl : (backTo pos (starEach es X.env)).any (·.1) = false := by rfl) :
    PE X (.Call (.Name x p) (e :: es) [] pos) (tMakeS C sp dvs E t) := by
  refine ⟨fun pins s σ H Q I h => ?_⟩
  refine wpAny_Call_Name_kw (ld_glob I hg hm ?_ hdb)
  refine PySem.W.callWith_K (h₀ := X.base) I.ok.mod.kin M.kp (thn (ha.run pos pins s σ H _ I h) fun us s1 ⟨vs, H1, I1, r, q⟩ => ⟨I1.kIn, ?_⟩) he hpl
  exact run_makeS M F hr hb hd hx I1 r q in
#guard_msgs (pass all) in open Nat
end
def putFD (f : Str) (d : D) : List (Str × D) → List (Str × D)
  | [] => [(f, d)]
  | (g, x) :: r => if g = f then (g, d) :: r else (g, x) :: putFD f d r
section
variable {K : PySem.W.Frag} {F G G0 H : Hp} {cs : Cs}
theorem RepF.put {f : Str} {v : V} {d : D} (h : Rep K G v d) : ∀ {xs : List (Str × V)} {ds : List (Str × D)}, RepF K G xs ds → RepF K G (putF f v xs) (putFD f d ds)
  | [], [], .nil => .cons h .nil
  | (g, x) :: r, (_, y) :: s, .cons q z => by
    unfold putF putFD
    by_cases e : g = f
    · rw [if_pos e, if_pos e]; exact .cons h z
    · rw [if_neg e, if_neg e]; exact .cons q (RepF.put h z)
theorem RepF.length : ∀ {xs : List (Str × V)} {ds : List (Str × D)}, RepF K G xs ds → xs.length = ds.length
  | [], [], .nil => rfl
  | _ :: _, _ :: _, .cons _ z => congrArg Nat.succ (RepF.length z)
/-- x is an instance of c that has fields fs -/
def FldsO (c : Str) (fs : List (Str × D)) (x : D) (cs : Cs) : Prop := x = .ins c fs ∨ ∃ a dx, x = .opq (.ref a) ∧ look a cs = some (.ins c a dx fs)
theorem FldsO.at_ {c : Str} {fs : List (Str × D)} {x : D} {v : V} (s : Sta K F G0 cs H) (r : Rep K (pur F cs H) v x) (h : FldsO c fs x cs) : ∃ a dx xs, v = .ref a ∧ H a = some (.ins (He.ga K c) dx xs) ∧ RepF K (pur F cs H) xs fs := by
  rcases h with e | ⟨a, dx, e, hl⟩
  · subst e
    cases r with
    | ins h q z => exact ⟨_, _, _, rfl, (pur_of h).1, z⟩
  · subst e
    cases r
    obtain ⟨o, ho, m⟩ := s.look hl
    cases o <;> try exact m.elim
    obtain ⟨e1, e2, _, e3⟩ := m
    subst e1 e2
    exact ⟨_, _, _, rfl, ho, e3⟩ in
#guard_msgs (pass all) in open Nat
theorem ins_at {c : Str} {a a' dx : Addr} {fs : List (Str × D)} (s : Sta K F G0 cs H) (h : look a cs = some (.ins c a' dx fs)) : ∃ xs, H a = some (.ins (He.ga K c) dx xs) ∧ pur F cs H dx = some (.own a') ∧ RepF K (pur F cs H) xs fs := by
  obtain ⟨o, ho, m⟩ := s.look h
  cases o <;> try exact m.elim
  obtain ⟨e1, e2, e4, e3⟩ := m
  subst e1 e2
  exact ⟨_, ho, e4, e3⟩ in
#guard_msgs (pass all) in open Nat
end
section
variable {X : Cx} {W : WX} {K : PySem.W.Frag} {σ : L2.St} {H : Hp} {k n : Nat} {f : Addr} {fd : FuncData} {ps ks : List Str} {sp : DSp} {c x m fl : Str} {p pos pos' apos : Pos} {e o : Expr} {es : List Expr} {kws : List Keyword} {w wk : WA} {wo wv : DL.WE} {dvs : List V} {dds : List D} {ds : List Value}
/-- o.m(..) -/
def wMeth (c m : Str) (sp : DSp) (dds : List D) (wo : DL.WE) (w : WA) : DL.WE := fun ρ cs P Z => wo ρ cs (fun x cs1 => ∃ fs, FldsO c fs x cs1 ∧ fs.lookup m = none ∧ w ρ cs1 (fun ds cs2 => sp (x :: (ds ++ dds)) cs2 P Z) Z) Z
theorem meth_ok {j : Nat} (hd : ∀ G, RepL K G dvs dds) (hn : 1 + j + dds.length = n) {Q : VK} : lE K W (wMeth c m sp dds wo w) σ H Q → tMethS (He.ga K c) m (spL K n sp) dvs (L2.WE W) (lE K W wo) (lA K W j w) σ H Q := by
  rintro ⟨F, cs, ρ, P, Z, s, re, hw, pe, px⟩
  refine ⟨F, cs, ρ, _, Z, s, re, hw, fun H1 cs1 v d s1 r1 h1 => ?_, px⟩
  obtain ⟨fs, hf, hl, h1⟩ := h1
  obtain ⟨a, dx, xs, rfl, ha, hx⟩ := hf.at_ s1 r1
  refine ⟨a, dx, xs, rfl, ha, hx.none hl, F, cs1, ρ, _, Z, s1.self, re.mono s1.gr, h1, fun H2 cs2 vs ds s2 r2 l2 h2 => ?_, px.le s1.gr⟩
  exact ⟨F, cs2, _, P, Z, s2.self, .cons (r1.mono s2.gr) (RepL.const hd r2), by rw [List.length_cons, List.length_append, l2]; omega, h2, pe.le (s1.gr.trans s2.gr), px.le (s1.gr.trans s2.gr)⟩ in
#guard_msgs (pass all) in open Nat
theorem d_meth {pl : Sem Bool} (cl : Cls X.K (He.ga X.K c)) (hm : Meth X.K (He.ga X.K c) m f) (F : FnOk X.prog X.w X.K X.mg X.base (L2.CX X.prog X.w) k f fd ps (spL X.K n sp)) (hr : Room k X.A) (hb : Binds X.K fd ps ds) (hd : Vals dvs ds) (hdd : ∀ G, RepL X.K G dvs dds) (tk : Takes X W)
    (ho : DE X W o wo) (ha : DA X W (e :: es) w) (hn : 1 + (e :: es).length + dds.length = n := by rfl)
    (hst : starEach (e :: es) X.env = (false, eval e X.env) :: starEach es X.env := by rfl) (hpl : (backTo pos (starEach es X.env)).any (·.1) = false := by rfl)
    (ht : eval (.Call (.Attribute o m apos) (e :: es) [] pos) X.env = (do
      let ov ← eval o X.env
      standAt apos.atName
      let (f, first) ← holding [ov] (getMethod ov m pl)
      callWith pos f first (backTo pos (starEach (e :: es) X.env)) (backToKw pos (keywordEach [] X.env))) := by rfl) :
    DE X W (.Call (.Attribute o m apos) (e :: es) [] pos) (wMeth c m sp dds wo w) :=
  PE.imp (pe_methS (pl := pl) (E := L2.WE W) ho cl hm F hr hb hd (fun σ => passAt tk σ) ha hst hpl ht) fun _ _ _ h => meth_ok hdd hn h in
#guard_msgs (pass all) in open Nat
theorem d_meth0 {pl : Sem Bool} (cl : Cls X.K (He.ga X.K c)) (hm : Meth X.K (He.ga X.K c) m f) (F : FnOk X.prog X.w X.K X.mg X.base (L2.CX X.prog X.w) k f fd ps (spL X.K n sp)) (hr : Room k X.A) (hb : Binds X.K fd ps ds) (hd : Vals dvs ds) (hdd : ∀ G, RepL X.K G dvs dds) (tk : Takes X W)
    (ho : DE X W o wo) (hn : 1 + 0 + dds.length = n := by rfl)
    (ht : eval (.Call (.Attribute o m apos) [] [] pos) X.env = (do
      let ov ← eval o X.env
      standAt apos.atName
      let (f, first) ← holding [ov] (getMethod ov m pl)
      callWith pos f first (backTo pos (starEach [] X.env)) (backToKw pos (keywordEach [] X.env))) := by rfl) :
    DE X W (.Call (.Attribute o m apos) [] [] pos) (wMeth c m sp dds wo wNil) :=
  PE.imp (pe_methS0 (pl := pl) (E := L2.WE W) ho cl hm F hr hb hd (fun σ => passAt tk σ) ht) fun σ H Q h => by
    obtain ⟨F, cs, ρ, P, Z, s, re, hw, pe, px⟩ := meth_ok (j := 0) hdd hn h
    refine ⟨F, cs, ρ, _, Z, s, re, hw, fun H1 cs1 v d s1 r1 h1 => ?_, px⟩
    obtain ⟨a, dx, fs, e1, e2, e3, h2⟩ := pe H1 cs1 v d s1 r1 h1
    refine ⟨a, dx, fs, e1, e2, e3, ?_⟩
    obtain ⟨F', cs', ρ', P', Z', s', re', hw', pe', px'⟩ := h2
    exact pe' _ cs' [] [] s' .nil rfl hw' in
#guard_msgs (pass all) in open Nat
/-- C(..) -/
def wMake (c : Str) (sp : DSp) (dds : List D) (w : WA) : DL.WE := fun ρ cs P Z => w ρ cs (fun ds cs1 => ∀ x dx, x ∉ adr cs1 → sp (.opq (.ref x) :: (ds ++ dds)) ((x, .ins c x dx []) :: cs1) (fun d cs2 => d = .non ∧ P (.opq (.ref x)) cs2) Z) Z
theorem Sta.made {F G0 H1 : Hp} {cs1 : Cs} {a dx : Addr} (s1 : Sta K F G0 cs1 H1) (h1 : H1 a = none) (h2 : H1 dx = none) (h3 : dx ≠ a) :
    Sta K F (pur F cs1 H1) ((a, .ins c a dx []) :: cs1) (upd (upd H1 dx (.own a)) a (.ins (He.ga K c) dx [])) ∧ a ∉ adr cs1 := by
  obtain ⟨s2, e2⟩ := s1.new (o := .own a) h2
  have h4 : upd H1 dx (.own a) a = none := by rw [upd_ne (Ne.symm h3)]; exact h1
  exact ⟨(s2.newM (m := .ins c a dx []) (o := .ins (He.ga K c) dx []) h4 ⟨rfl, rfl, e2, .nil⟩).from_ s2.gr, (s1.notin h1).2⟩ in
#guard_msgs (pass all) in open Nat
theorem make_end {F G : Hp} {P : DP} {Q : VK} {a : Addr} (pe : PostE K F G P Q) : PostE K F G (fun d cs2 => d = .non ∧ P (.opq (.ref a)) cs2) (fun v H2 => v = .non ∧ Q (.ref a) H2) := fun H' cs' v d s' r' ⟨e, h⟩ => by
  subst e
  cases r'
  exact ⟨rfl, pe H' cs' _ _ s' (.opq _) h⟩
theorem make_ok {j : Nat} (hd : ∀ G, RepL K G dvs dds) (hn : 1 + j + dds.length = n) {Q : VK} : lE K W (wMake c sp dds w) σ H Q → tMakeS (He.ga K c) (spL K n sp) dvs (L2.WE W) (lA K W j w) σ H Q := by
  rintro ⟨F, cs, ρ, P, Z, s, re, hw, pe, px⟩
  refine ⟨F, cs, ρ, _, Z, s, re, hw, fun H1 cs1 vs ds s1 r1 l1 h1 => ?_, px⟩
  intro a dx ha hdx hne
  obtain ⟨s2, hn2⟩ := Sta.made (c := c) s1 ha hdx hne
  have g := s1.gr.trans s2.gr
  exact ⟨F, _, _, _, Z, s2.self, .cons (.opq _) (RepL.const hd (r1.mono s2.gr)), by rw [List.length_cons, List.length_append, l1]; omega, h1 a dx hn2, make_end (pe.le g), px.le g⟩ in
#guard_msgs (pass all) in open Nat
theorem d_make (M : Mk X.K (He.ga X.K x) f) (F : FnOk X.prog X.w X.K X.mg X.base (L2.CX X.prog X.w) k f fd ps (spL X.K n sp)) (hr : Room (k + 1) X.A) (hg : Gl X x) (hm : X.mg x = some (.ref (He.ga X.K x))) (hb : Binds X.K fd ps ds) (hd : Vals dvs ds) (hdd : ∀ G, RepL X.K G dvs dds) (tk : Takes X W)
    (ha : DA X W (e :: es) w) (hn : 1 + (e :: es).length + dds.length = n := by rfl) (hdb : (x == ("__debug__" : Str)) = false := by decide) (he : starEach (e :: es) X.env = (false, eval e X.env) :: starEach es X.env := by rfl) (hpl : (backTo pos (starEach es X.env)).any (·.1) = false := by rfl) :
    DE X W (.Call (.Name x p) (e :: es) [] pos) (wMake x sp dds w) :=
  PE.imp (pe_makeS (E := L2.WE W) M F hr hg hm hb hd (fun σ => passAt tk σ) ha hdb he hpl) fun _ _ _ h => make_ok hdd hn h in
#guard_msgs (pass all) in open Nat
/-- C(e, .., k = v, ..): keywords in any order, some left out -/
def wMakeG (c : Str) (sp : DSp) (is : List Nat) (ms : List D) (w wk : WA) : DL.WE := fun ρ cs P Z => w ρ cs (fun ds cs1 => wk ρ cs1 (fun zs cs2 => ∀ x dx, x ∉ adr cs2 → sp (.opq (.ref x) :: (ds ++ pickL is (ms ++ zs))) ((x, .ins c x dx []) :: cs2) (fun d cs3 => d = .non ∧ P (.opq (.ref x)) cs3) Z) Z) Z
theorem d_makeG {nn mm : Nat} {is : List Nat} {mvs : List V} {ms : List D} (M : Mk X.K (He.ga X.K x) f) (F : FnOk X.prog X.w X.K X.mg X.base (L2.CX X.prog X.w) k f fd ps (spL X.K mm sp)) (hr : Room (k + 1) X.A) (hg : Gl X x) (hm : X.mg x = some (.ref (He.ga X.K x)))
    (hb : ∃ mv : List Value, KBn X.K fd ps (nn + 1) ks (fun us ws => us ++ pickL is (mv ++ ws)) (fun vs zs => vs ++ pickL is (mvs ++ zs))) (hms : ∀ G, RepL X.K G mvs ms) (tk : Takes X W) (ha : DA X W (e :: es) w) (hkw : DK X W kws wk)
    (hn : (e :: es).length = nn := by rfl) (hn2 : kws.length = ks.length := by rfl) (hn3 : ∀ i ∈ is, i < ms.length + ks.length := by decide) (hn4 : 1 + nn + is.length = mm := by rfl)
    (hall : (backToKw pos (keywordEach kws X.env)).all (·.1.isSome) = true := by rfl) (hks : (backToKw pos (keywordEach kws X.env)).filterMap (·.1) = ks := by rfl)
    (hdb : (x == ("__debug__" : Str)) = false := by decide) (he : starEach (e :: es) X.env = (false, eval e X.env) :: starEach es X.env := by rfl)
    (hpl : ((backTo pos (starEach (e :: es) X.env)).any (·.1) || (backToKw pos (keywordEach kws X.env)).any (·.1.isNone)) = false := by rfl) :
    DE X W (.Call (.Name x p) (e :: es) kws pos) (wMakeG x sp is ms w wk) := by
  obtain ⟨mv, hb⟩ := hb
  refine PE.imp (pe_makeKS (E := L2.WE W) M F hr hg hm hb (fun σ => passAt tk σ) ha hkw hall hks hdb he hpl) fun σ H Q h => ?_
  obtain ⟨F, cs, ρ, P, Z, s, re, hw, pe, px⟩ := h
  refine ⟨F, cs, ρ, _, Z, s, re, hw, fun H1 cs1 vs ds s1 r1 l1 h1 => ?_, px⟩
  refine ⟨F, cs1, ρ, _, Z, s1.self, re.mono s1.gr, h1, fun H2 cs2 zs es s2 r2 l2 h2 => ⟨by rw [r1.length, l1]; exact hn, by rw [r2.length, l2]; exact hn2, ?_⟩, px.le s1.gr⟩
  intro a dx h3 h4 h5
  obtain ⟨s3, hn2'⟩ := Sta.made (c := x) s2 h3 h4 h5
  have g := (s1.gr.trans s2.gr).trans s3.gr
  refine ⟨F, _, _, _, Z, s3.self, .cons (.opq _) ((r1.mono (s2.gr.trans s3.gr)).append (((hms _).append (r2.mono s3.gr)).pick is)), ?_, h2 a dx hn2', make_end (pe.le g), px.le g⟩
  rw [List.length_cons, List.length_append, l1, hn, pick_len (fun i hi => by rw [List.length_append, l2, hn2]; exact hn3 i hi)]
  omega in
#guard_msgs (pass all) in open Nat
/-- an __init__ that stores: the fields are g of the arguments -/
def spStore (c : Str) (n : Nat) (g : List D → List (Str × D)) : DSp := fun ds cs P _ => ∃ x dx cs0 es, ds = .opq (.ref x) :: es ∧ es.length = n ∧ cs = (x, .ins c x dx []) :: cs0 ∧ P .non ((x, .ins c x dx (g es)) :: cs0)
def wMkF (c : Str) (g : List D → List (Str × D)) (n : Nat) (w : WA) : DL.WE := fun ρ cs P Z => w ρ cs (fun ds cs1 => ds.length = n ∧ P (.ins c (g ds)) cs1) Z
theorem d_mkF {g : List D → List (Str × D)} {nn : Nat} (M : Mk X.K (He.ga X.K x) f) (F : FnOk X.prog X.w X.K X.mg X.base (L2.CX X.prog X.w) k f fd ps (spL X.K n (spStore x nn g))) (hr : Room (k + 1) X.A) (hg : Gl X x) (hm : X.mg x = some (.ref (He.ga X.K x))) (hb : Binds X.K fd ps []) (tk : Takes X W)
    (ha : DA X W (e :: es) w) (hn : 1 + (e :: es).length + 0 = n := by rfl) (hdb : (x == ("__debug__" : Str)) = false := by decide) (he : starEach (e :: es) X.env = (false, eval e X.env) :: starEach es X.env := by rfl) (hpl : (backTo pos (starEach es X.env)).any (·.1) = false := by rfl) :
    DE X W (.Call (.Name x p) (e :: es) [] pos) (wMkF x g nn w) :=
  PE.imp (pe_makeS (E := L2.WE W) M F hr hg hm hb .nil (fun σ => passAt tk σ) ha hdb he hpl) fun σ H Q h => by
    obtain ⟨F, cs, ρ, P, Z, s, re, hw, pe, px⟩ := h
    refine ⟨F, cs, ρ, _, Z, s, re, hw, fun H1 cs1 vs ds s1 r1 l1 h1 => ?_, px⟩
    obtain ⟨hl, h1⟩ := h1
    intro a dx ha hdx hne
    obtain ⟨s2, hn2⟩ := Sta.made (c := x) s1 ha hdx hne
    have g2 := s1.gr.trans s2.gr
    rw [List.append_nil]
    refine ⟨F, _, .opq (.ref a) :: ds, fun d cs2 => d = .non ∧ cs2 = (a, .ins x a dx (g ds)) :: cs1, Z, s2.self, .cons (.opq _) (r1.mono s2.gr), by rw [List.length_cons, l1]; omega, ⟨a, dx, cs1, ds, rfl, hl, rfl, rfl, rfl⟩, fun H' cs' v d s' r' q => ?_, px.le g2⟩
    obtain ⟨e1, e2⟩ := q
    subst e1 e2
    cases r'
    refine ⟨rfl, ?_⟩
    obtain ⟨s3, g3, o, ho, m⟩ := s'.freeze
    cases o <;> try exact m.elim
    obtain ⟨e1, e2, e4, e3⟩ := m
    subst e1 e2
    exact pe H' _ _ _ (s3.from_ g2) (.ins ho e4 e3) h1 in
#guard_msgs (pass all) in open Nat
/-- C(e, ..), the keyword-only defaults behind -/
theorem d_makeD (M : Mk X.K (He.ga X.K x) f) (F : FnOk X.prog X.w X.K X.mg X.base (L2.CX X.prog X.w) k f fd ps (spL X.K n sp)) (hr : Room (k + 1) X.A) (hg : Gl X x) (hm : X.mg x = some (.ref (He.ga X.K x))) (hb : ∃ ds, Vals dvs ds ∧ Binds X.K fd ps ds) (hdd : ∀ G, RepL X.K G dvs dds) (tk : Takes X W)
    (ha : DA X W (e :: es) w) (hn : 1 + (e :: es).length + dds.length = n := by rfl) (hdb : (x == ("__debug__" : Str)) = false := by decide) (he : starEach (e :: es) X.env = (false, eval e X.env) :: starEach es X.env := by rfl) (hpl : (backTo pos (starEach es X.env)).any (·.1) = false := by rfl) :
    DE X W (.Call (.Name x p) (e :: es) [] pos) (wMake x sp dds w) := by
  obtain ⟨ds, hd, hb⟩ := hb
  exact d_make M F hr hg hm hb hd hdd tk ha hn hdb he hpl in
#guard_msgs (pass all) in open Nat
theorem gtup_rep {K : PySem.W.Frag} {G : Hp} {x : Str} {vs : List He.Dv} (ht : He.tupB K x vs = true) (hv : (vs.all fun v => match v with | .non | .bl _ | .int _ | .str _ => true | _ => false) = true := by rfl) : Rep K G (.ref (He.ga K x)) (.tup (vs.map dvD)) := .tup (He.tupB_ok ht _) (dv_rep hv) in
#guard_msgs (pass all) in open Nat
def oFld (c fl : Str) (x : D) (cs : Cs) (P : DP) : Prop := ∃ fs y, FldsO c fs x cs ∧ fs.lookup fl = some y ∧ P y cs
def wFld (c fl : Str) (wo : DL.WE) : DL.WE := fun ρ cs P Z => wo ρ cs (fun x cs1 => oFld c fl x cs1 P) Z
theorem d_fld (cl : Cls X.K (He.ga X.K c)) (na : NoAttr X.K (He.ga X.K c) fl) (ho : DE X W o wo) (hb : attributeBase o fl X.env (eval o X.env) = eval o X.env := by rfl) : DE X W (.Attribute o fl pos) (wFld c fl wo) :=
  PE.imp (pe_fld ho hb) fun σ H Q h => by
    obtain ⟨F, cs, ρ, P, Z, s, re, hw, pe, px⟩ := h
    refine ⟨F, cs, ρ, _, Z, s, re, hw, fun H1 cs1 v d s1 r1 h1 => ?_, px⟩
    obtain ⟨fs, y, hf, hl, h1⟩ := h1
    obtain ⟨a, dx, xs, rfl, ha, hx⟩ := hf.at_ s1 r1
    obtain ⟨u, hu, ru⟩ := hx.get hl
    exact ⟨a, _, dx, xs, u, rfl, ha, cl, na, hu, pe H1 cs1 u y s1 ru h1⟩ in
#guard_msgs (pass all) in open Nat
/-- o.f = v -/
def sFldD (c fl : Str) (wv wo : DL.WE) : WS := fun fi ρ cs => wv ρ cs (fun y cs1 => wo ρ cs1 (fun x cs2 => ∃ a b dx fs, x = .opq (.ref a) ∧ look a cs2 = some (.ins c b dx fs) ∧ fs.length < 1000 ∧ fi.nx ρ (put a (.ins c b dx (putFD fl y fs)) cs2)) (fun x cs1 => fi.ex x ρ cs1)) (fun x cs1 => fi.ex x ρ cs1)
theorem ds_fld {v : Expr} (cl : Cls X.K (He.ga X.K c)) (na : NoAttr X.K (He.ga X.K c) fl) (hv : DE X W v wv) (ho : DE X W o wo) (hs : swapsWith v (some (.Attribute o fl pos')) pos.line X.env = pure false := by rfl) : DS X W (.Assign [.Attribute o fl pos'] v pos) (sFldD c fl wv wo) :=
  PS.imp (ps_fld ho hv hs) fun E σ H h => by
    obtain ⟨F, cs, ρ, fi, s, re, hw, pe⟩ := h
    refine ⟨F, cs, ρ, _, _, s, re, hw, fun H1 cs1 y dy s1 r1 h1 => ?_, pe.px re⟩
    refine ⟨F, cs1, ρ, _, _, s1.self, re.mono s1.gr, h1, fun H2 cs2 x dx' s2 r2 h2 => ?_, (pe.le s1.gr).px (re.mono s1.gr)⟩
    obtain ⟨a, b, dx, fs, rfl, hl, hn, h⟩ := h2
    cases r2
    obtain ⟨xs, ha, hd, hx⟩ := ins_at s2 hl
    have s3 := s2.put hl (m' := .ins c b dx (putFD fl dy fs)) (o' := .ins (He.ga X.K c) dx (putF fl y xs)) ⟨rfl, rfl, hd, RepF.put (r1.mono s2.gr) hx⟩
    have g := s1.gr.trans s2.gr
    exact ⟨a, _, dx, xs, rfl, ha, cl, na, by rw [hx.length]; exact hn, pe.nx _ _ σ ρ (s3.from_ g) (re.mono (g.trans s3.gr)) h⟩ in
#guard_msgs (pass all) in open Nat
section
variable {C : Addr} {spV : Sp}
theorem run_spec {A : Around} {pins : List (Addr × Obj)} {s : Shared} {a : Addr} {R : Value → Shared → Prop} {Q : VK} (F : FnOk X.prog X.w X.K X.mg X.base (L2.CX X.prog X.w) k f fd ps spV) (hr : Room k A) (e0 : Env0 X.prog X.w X.K X.mg X.base A X.stack s H) (hb : Binds X.K fd ps [])
    (I : Inv X pins σ H s) (h : spV [.ref a] H Q fun _ _ _ => False) (hq : ∀ v s', EP X pins σ Q v s' → R v s') : wpAny (model X.prog X.w) A (call (.ref f) [.ref a]) R X.xe s := by
  have hl := F.len _ _ _ _ h
  refine wpAny_call (codeAny_mono (F.run A X.stack s H ⟨[.ref a], []⟩ [.ref a] [.ref a] Q _ hr e0 (by
    have := hb s [.ref a] I.kIn (by simpa using hl)
    simpa using this) (.cons rfl .nil) h) fun r s' z => ?_)
  cases r with
  | error e => exact noOut pins σ H s e s' I z
  | ok fl =>
    cases fl with
    | ret u => exact hq _ _ (I.after z)
    | next => exact False.elim z
    | brk => exact False.elim z
    | cont => exact False.elim z in
#guard_msgs (pass all) in open Nat
theorem call_lenO (hm : Meth X.K C "__len__" f) (F : FnOk X.prog X.w X.K X.mg X.base (L2.CX X.prog X.w) k f fd ps spV) (hr : Room (k + 1) X.A) (hb : Binds X.K fd ps []) :
    CallR X (.builtin "len") (fun xs H Q => ∃ a dx fs, xs = [.ref a] ∧ H a = some (.ins C dx fs) ∧ spV [.ref a] H (fun v H' => ∃ n : Int, v = .int n ∧ (0 ≤ n ∧ n < 2 ^ 63) ∧ Q (.int n) H') fun _ _ _ => False) := by
  intro pins s σ H xs us Q I r h
  obtain ⟨a, dx, fs, rfl, ha, q⟩ := h
  obtain ⟨u, rfl, ru⟩ := r.one
  cases (show u = Value.ref a from ru)
  obtain ⟨mA, J, _⟩ := ins_get I.hok ha
  obtain ⟨od, J, _⟩ := J.look
  obtain ⟨m, hF⟩ := I.fr
  refine PySem.W.len_K hF I.ok.mod.kin J hm.at_ hm.fn (run_spec F hr.in1 I.env0.in1 hb I q fun v s' z => ?_)
  obtain ⟨z, H', I', rz, n, e, hn, qz⟩ := z
  subst e
  obtain ⟨t, e⟩ := (show ∃ t, v = Value.int n t from rz)
  subst e
  exact ⟨hn, .int n, H', I'.tok _, ⟨_, rfl⟩, qz⟩ in
#guard_msgs (pass all) in open Nat
theorem call_reprO (hm : Meth X.K C "__repr__" f) (F : FnOk X.prog X.w X.K X.mg X.base (L2.CX X.prog X.w) k f fd ps spV) (hr : Room (k + 1) X.A) (hb : Binds X.K fd ps []) :
    CallR X (.builtin "repr") (fun xs H Q => ∃ a dx fs, xs = [.ref a] ∧ H a = some (.ins C dx fs) ∧ spV [.ref a] H (fun v H' => ∃ n : Str, v = .str n ∧ Q (.str n) H') fun _ _ _ => False) := by
  intro pins s σ H xs us Q I r h
  obtain ⟨a, dx, fs, rfl, ha, q⟩ := h
  obtain ⟨u, rfl, ru⟩ := r.one
  cases (show u = Value.ref a from ru)
  obtain ⟨mA, J, _⟩ := ins_get I.hok ha
  obtain ⟨od, J, _⟩ := J.look
  obtain ⟨m, hF⟩ := I.fr
  refine PySem.W.repr_K hr.in1.units0 hF I.ok.mod.kin J hm.at_ hm.fn (run_spec F hr.in1 I.env0.in1 hb I q fun v s' z => ?_)
  obtain ⟨z, H', I', rz, n, e, qz⟩ := z
  subst e
  obtain ⟨t, e⟩ := (show ∃ t, v = Value.str n t from rz)
  subst e
  exact ⟨.str n, H', I', ⟨_, rfl⟩, qz⟩ in
#guard_msgs (pass all) in open Nat
end
def oLenO (c : Str) (sp : DSp) : DOn := fun ds cs P => ∃ x fs, ds = [x] ∧ FldsO c fs x cs ∧ sp [x] cs (fun v cs' => ∃ n : Int, v = .int n ∧ (0 ≤ n ∧ n < 2 ^ 63) ∧ P (.int n) cs') fun _ _ => False
def oReprO (c : Str) (sp : DSp) : DOn := fun ds cs P => ∃ x fs, ds = [x] ∧ FldsO c fs x cs ∧ sp [x] cs (fun v cs' => ∃ n : Str, v = .str n ∧ P (.str n) cs') fun _ _ => False
theorem adq_lenO : AdqN K (fun xs H Q => ∃ a dx fs, xs = [.ref a] ∧ H a = some (.ins (He.ga K c) dx fs) ∧ spL K 1 sp [.ref a] H (fun v H' => ∃ n : Int, v = .int n ∧ (0 ≤ n ∧ n < 2 ^ 63) ∧ Q (.int n) H') fun _ _ _ => False) (oLenO c sp) := fun F cs H xs ds P Q s r ho pe => by
  obtain ⟨x, fs, rfl, hf, hsp⟩ := ho
  cases r with | cons r1 r2 =>
  cases r2
  obtain ⟨a, dx, xs, rfl, ha, hx⟩ := hf.at_ s r1
  refine ⟨a, dx, xs, rfl, ha, F, cs, _, _, _, s, .cons r1 .nil, rfl, hsp, fun H' cs' v d s' r' q => ?_, fun _ _ _ _ _ _ z => z.elim⟩
  obtain ⟨n, rfl, hn, q⟩ := q
  cases r'
  exact ⟨n, rfl, hn, pe H' cs' _ _ s' (.int n) q⟩ in
#guard_msgs (pass all) in open Nat
theorem adq_reprO : AdqN K (fun xs H Q => ∃ a dx fs, xs = [.ref a] ∧ H a = some (.ins (He.ga K c) dx fs) ∧ spL K 1 sp [.ref a] H (fun v H' => ∃ n : Str, v = .str n ∧ Q (.str n) H') fun _ _ _ => False) (oReprO c sp) := fun F cs H xs ds P Q s r ho pe => by
  obtain ⟨x, fs, rfl, hf, hsp⟩ := ho
  cases r with | cons r1 r2 =>
  cases r2
  obtain ⟨a, dx, xs, rfl, ha, hx⟩ := hf.at_ s r1
  refine ⟨a, dx, xs, rfl, ha, F, cs, _, _, _, s, .cons r1 .nil, rfl, hsp, fun H' cs' v d s' r' q => ?_, fun _ _ _ _ _ _ z => z.elim⟩
  obtain ⟨n, rfl, q⟩ := q
  cases r'
  exact ⟨n, rfl, pe H' cs' _ _ s' (.str n) q⟩ in
#guard_msgs (pass all) in open Nat
theorem d_lenO (hm : Meth X.K (He.ga X.K c) "__len__" f) (F : FnOk X.prog X.w X.K X.mg X.base (L2.CX X.prog X.w) k f fd ps (spL X.K 1 sp)) (hr : Room (k + 1) X.A) (hb : Binds X.K fd ps []) (hg : Gl X "len") (hmm : X.mg "len" = none) (ho : DE X W o wo)
    (he : starEach [o] X.env = (false, eval o X.env) :: starEach [] X.env := by rfl) : DE X W (.Call (.Name "len" p) [o] [] pos) (wCB (oLenO c sp) (wCons wo wNil)) :=
  d_callB (call_lenO hm F hr hb) adq_lenO hg hmm (by decide +kernel) (da_cons ho da_nil (hs := he)) (by decide) (by decide) he (by rfl) in
#guard_msgs (pass all) in open Nat
theorem d_reprO (hm : Meth X.K (He.ga X.K c) "__repr__" f) (F : FnOk X.prog X.w X.K X.mg X.base (L2.CX X.prog X.w) k f fd ps (spL X.K 1 sp)) (hr : Room (k + 1) X.A) (hb : Binds X.K fd ps []) (hg : Gl X "repr") (hmm : X.mg "repr" = none) (ho : DE X W o wo)
    (he : starEach [o] X.env = (false, eval o X.env) :: starEach [] X.env := by rfl) : DE X W (.Call (.Name "repr" p) [o] [] pos) (wCB (oReprO c sp) (wCons wo wNil)) :=
  d_callB (call_reprO hm F hr hb) adq_reprO hg hmm (by decide +kernel) (da_cons ho da_nil (hs := he)) (by decide) (by decide) he (by rfl) in
#guard_msgs (pass all) in open Nat
def prsV : List Str → List V → List (V × V)
  | k :: ks, v :: vs => (.str k, v) :: prsV ks vs
  | _, _ => []
structure DPs (X : Cx) (W : WX) (pos : Pos) (keys : List (Option Expr)) (vals : List Expr) (ks : List Str) (w : WA) : Prop where
  ex : ∃ trs, PPs X pos keys vals trs ∧ ∀ (σ : L2.St) (H : Hp) (Q : List V → Hp → Prop) (R : List (V × V) → Hp → Prop), lA X.K W ks.length w σ H Q → (∀ vs H', vs.length = ks.length → Q vs H' → R (prsV ks vs) H') → tPairs trs σ H R
theorem dps_nil : DPs X W pos [] [] [] wNil := ⟨[], pps_nil, fun σ H Q R ⟨F, cs, ρ, P, Z, s, re, hw, pe, px⟩ i => i [] H rfl (pe H cs [] [] s .nil rfl hw)⟩
theorem dps_cons {ks : List Str} {x1 : Str} {j : Nat} {p1 : Pos} {keys : List (Option Expr)} {vals : List Expr} {we : DL.WE} (hv : DE X W e we) (hr : DPs X W pos keys vals ks w) : DPs X W pos (some (.Constant (.str x1) j p1) :: keys) (e :: vals) (x1 :: ks) (wCons we w) := by
  obtain ⟨trs, h1, h2⟩ := hr
  refine ⟨(tC (.str x1), lE X.K W we) :: trs, pps_cons pe_str hv h1, fun σ H Q R h i => ?_⟩
  obtain ⟨F, cs, ρ, P, Z, s, re, hw, pe, px⟩ := h
  show lE X.K W we σ H fun y H2 => tPairs trs σ H2 fun ps H3 => R ((.str x1, y) :: ps) H3
  refine ⟨F, cs, ρ, _, Z, s, re, hw, fun H1 cs1 v d s1 r1 q1 => ?_, px⟩
  refine h2 σ H1 (fun vs H3 => Q (v :: vs) H3) _ ⟨F, cs1, ρ, _, Z, s1.self, re.mono s1.gr, q1, fun H2 cs2 vs ds s2 r2 l2 q2 => ?_, px.le s1.gr⟩ fun vs H3 hl q => i (v :: vs) H3 (congrArg Nat.succ hl) q
  exact pe H2 cs2 _ _ (s2.from_ s1.gr) (.cons (r1.mono s2.gr) r2) (congrArg Nat.succ l2) q2 in
#guard_msgs (pass all) in open Nat
def zipK {α : Type} : List Str → List α → List (Key × α)
  | k :: ks, d :: ds => (Sum.inr k, d) :: zipK ks ds
  | _, _ => []
theorem prs_zip : ∀ (ks : List Str) (vs : List V), prsV ks vs = (zipK ks vs).map fun kv => (kV kv.1, kv.2)
  | [], vs => by cases vs <;> rfl
  | k :: ks, [] => rfl
  | k :: ks, v :: vs => by
    show (V.str k, v) :: prsV ks vs = _
    rw [prs_zip ks vs]
    rfl
theorem zipK_len {α : Type} : ∀ (ks : List Str) (vs : List α), (zipK ks vs).length ≤ ks.length
  | [], vs => by cases vs <;> exact Nat.le_refl _
  | k :: ks, [] => Nat.zero_le _
  | k :: ks, v :: vs => Nat.succ_le_succ (zipK_len ks vs)
theorem mergeK_zip {α : Type} [h0 : Inhabited α] : ∀ (ks : List Str) (vs : List V) (acc : List (Key × V)), ks.Nodup → (∀ k ∈ ks, valV acc (Sum.inr k) = none) → mergeK acc (zipK ks vs) = acc ++ zipK ks vs
  | [], vs, acc, _, _ => by cases vs <;> simp [zipK, mergeK]
  | k :: ks, [], acc, _, _ => by simp [zipK, mergeK]
  | k :: ks, v :: vs, acc, nd, hk => by
    obtain ⟨n1, n2⟩ := List.nodup_cons.mp nd
    have e : putK acc (Sum.inr k) v = acc ++ [(Sum.inr k, v)] := putK_new v (hk k (List.mem_cons_self ..))
    show mergeK (putK acc (Sum.inr k) v) (zipK ks vs) = _
    rw [e, mergeK_zip (α := α) ks vs _ n2 (fun j hj => ?_)]
    · show (acc ++ [(Sum.inr k, v)]) ++ zipK ks vs = acc ++ ((Sum.inr k, v) :: zipK ks vs)
      rw [List.append_assoc]; rfl
    · have hj2 := hk j (List.mem_cons_of_mem _ hj)
      rw [← e]
      have hne : (Sum.inr j : Key) ≠ Sum.inr k := fun z => n1 (by rw [← Sum.inr.inj z]; exact hj)
      rw [valV_put]
      simp [hne, hj2] in
#guard_msgs (pass all) in open Nat
theorem repK_zip {K : PySem.W.Frag} {G : Hp} : ∀ (ks : List Str) {vs : List V} {ds : List D}, RepL K G vs ds → RepK K G (zipK ks vs) (zipK ks ds)
  | [], [], [], .nil => .nil
  | [], _ :: _, _ :: _, .cons _ _ => .nil
  | k :: ks, [], [], .nil => .nil
  | k :: ks, _ :: _, _ :: _, .cons h r => .cons h (repK_zip ks r)
def wDisp (ks : List Str) (w : WA) : DL.WE := fun ρ cs P Z => ∀ p, p ∉ adr cs → w ρ ((p, .dic []) :: cs) (fun ds cs1 => look p cs1 = some (.dic []) ∧ P (.opq (.ref p)) (put p (.dic (zipK ks ds)) cs1)) Z
theorem d_disp {ks : List Str} {keys : List (Option Expr)} {vals : List Expr} (h : DPs X W pos keys vals ks w) (hnd : ks.Nodup := by decide) (hks : ks.length ≤ 15 := by decide) (hall : keys.all (·.isSome) = true := by rfl) (hl : keys.length = vals.length := by rfl) (h0 : keys ≠ [] := by intro z; cases z) (h15 : keys.length ≤ 15 := by decide) : DE X W (.Dict keys vals pos) (wDisp ks w) := by
  obtain ⟨trs, h1, h2⟩ := h
  refine PE.imp (pe_disp h1 hall hl h0 h15) fun σ H Q h p hp => ?_
  obtain ⟨F, cs, ρ, P, Z, s, re, hw, pe, px⟩ := h
  have s1 := s.newM (m := .dic []) (o := .dK []) hp RepK.nil
  refine h2 σ _ (fun vs H2 => H2 p = some (.dK []) ∧ Q (.ref p) (upd H2 p (.dK (zipK ks vs)))) _ ⟨F, _, ρ, _, Z, s1.self, re.mono s1.gr, hw p (s.notin hp).2, fun H2 cs2 vs ds s2 r2 l2 h2 => ?_, px.le s1.gr⟩ fun vs H2 hlen q => ?_
  · obtain ⟨e2, h4⟩ := h2
    obtain ⟨xs, e3, e4⟩ := dic_at s2 e2
    cases e4
    have s4 := s2.put e2 (m' := .dic (zipK ks ds)) (o' := .dK (zipK ks vs)) (repK_zip ks r2)
    exact ⟨e3, pe _ _ _ _ (s4.from_ (s1.gr.trans s2.gr)) (.opq _) h4⟩
  · obtain ⟨e3, q⟩ := q
    refine ⟨e3, zipK ks vs, prs_zip ks vs, Nat.le_trans (zipK_len ks vs) hks, ?_⟩
    rw [mergeK_zip (α := V) (h0 := ⟨.non⟩) ks vs [] hnd (fun _ _ => rfl)]
    exact q in
#guard_msgs (pass all) in open Nat
theorem r_disp {ks : List Str} {ρ : DL.Env} {cs : Cs} {P : DP} {Z : XZ} (h : ∀ p, p ∉ adr cs → w ρ ((p, .dic []) :: cs) (fun ds cs1 => look p cs1 = some (.dic []) ∧ P (.opq (.ref p)) (put p (.dic (zipK ks ds)) cs1)) Z) : wDisp ks w ρ cs P Z := h
theorem r_dispH {p : Addr} {cs : Cs} {R : Cs → Prop} {kvs : List (Key × D)} (h : R ((p, .dic kvs) :: cs)) : look p ((p, .dic []) :: cs) = some (.dic []) ∧ R (put p (.dic kvs) ((p, .dic []) :: cs)) := ⟨look_hd, by rw [put_hd]; exact h⟩
def rLenDd : List V → Hp → VK → Prop := fun xs H Q => ∃ a kvs, xs = [V.ref a] ∧ Rd H a (.dK kvs) ∧ Q (.int kvs.length) H
theorem cr_lenDd : CallR X (.builtin "len") rLenDd := by
  intro pins s σ H xs us Q I r h
  obtain ⟨a, kvs, rfl, ha, q⟩ := h
  obtain ⟨u, rfl, ru⟩ := r.one
  cases ru
  exact d_len I ha fun t s' I' => ⟨.int kvs.length, H, I', ⟨t, rfl⟩, q⟩ in
#guard_msgs (pass all) in open Nat
def oLenDd : DOn := fun ds cs P => ∃ (d : D) (kvs : List (Key × D)), ds = [d] ∧ ddAt d cs = some (.inl kvs) ∧ P (.int kvs.length) cs
theorem adq_lenDd : AdqN K rLenDd oLenDd := fun F cs H xs ds P Q s r ho pe => by
  obtain ⟨d, kvs, rfl, hd, h⟩ := ho
  cases r with | cons r1 r2 =>
  cases r2
  obtain ⟨p, vs, rfl, h1, h2⟩ := dd_k s r1 hd
  refine ⟨p, vs, rfl, h1, ?_⟩
  have e : vs.length = kvs.length := h2.length
  rw [e]
  exact pe H cs _ _ s (.int _) h
theorem r_lenDd {kvs : List (Key × D)} {cs : Cs} {P : DP} (h : P (.int kvs.length) cs) : oLenDd [.dic kvs] cs P := ⟨_, kvs, rfl, rfl, h⟩
def rEqNil (K : PySem.W.Frag) : R2 := fun x y H Q => ∃ a b xs, x = .ref a ∧ y = .ref b ∧ SqL K H a xs ∧ SqL K H b [] ∧ Q (.bl xs.isEmpty) H
theorem rc_nil {A : Around} {s : Shared} {l b : Addr} {items items2 : Array Value} (hl : PlainL s.heap l items) (hb : PlainL s.heap b items2) (h2 : items2.size = 0) (hu : A.units < cLine) {E Q : Value → Shared → Prop} (h : Q (.bool (items.size == 0)) s) {P : Program} {w : World} :
    wpAny (model P w) A (richCompare .Eq (.ref l) (.ref b)) Q E s := by
  obtain ⟨⟨cls, dd, data, sl⟩, n, ho, hc, hdd, hd⟩ := hl
  obtain ⟨⟨cls2, dd2, data2, sl2⟩, n2, ho2, hc2, hdd2, hd2⟩ := hb
  simp only at hc hd hc2 hd2 hdd hdd2
  subst hc hd hc2 hd2 hdd hdd2
  have ta : s.TypeIs (.ref l) "list" := ⟨_, ho, rfl⟩
  have tb : s.TypeIs (.ref b) "list" := ⟨_, ho2, rfl⟩
  have i1 : s.heap.IsList l items := ⟨_, ho, rfl, n, rfl⟩
  have i2 : s.heap.IsList b items2 := ⟨_, ho2, rfl, n2, rfl⟩
  by_cases hz : items.size = 0
  · exact PySem.SeqAt.RcAt.lists (e := fun _ => true) i1 i2 (hz.trans h2.symm) hu (fun j h1 _ => absurd h1 (by omega)) P w E Q (by
      rw [show ((List.range items.size).all fun _ => true) = (items.size == 0) from by rw [hz] <;> rfl]; exact h)
  · have hne : (items.size != items2.size) = true := by rw [h2]; simpa using hz
    have e0 : (items.size == 0) = false := by simpa using hz
    rw [e0] at h
    exact PySem.SeqAt.RcAt.lists_lengths i1 i2 hne hu P w E Q h in
#guard_msgs (pass all) in open Nat
theorem op_eqNil (hu : X.A.units + 64 < cLine) : OpR X (compareOp .Eq) (rEqNil X.K) := by
  intro pins s σ H x y v u Q I rx ry h
  obtain ⟨a, b, xs, rfl, rfl, h1, h2, q⟩ := h
  cases (show v = Value.ref a from rx)
  cases (show u = Value.ref b from ry)
  obtain ⟨its, r1, p1, _⟩ := I.list h1
  obtain ⟨its2, r2, p2, _⟩ := I.list h2
  show wpAny (model X.prog X.w) X.A (richCompare .Eq (.ref a) (.ref b)) (EP X pins σ Q) X.xe s
  refine rc_nil p1 p2 (by cases r2; rfl) (by omega) ⟨.bl xs.isEmpty, H, I, ?_, q⟩
  have e : xs.length = its.length := r1.length
  show Value.bool (its.toArray.size == 0) = Value.bool xs.isEmpty
  congr 1
  cases xs with
  | nil => cases its with
    | nil => rfl
    | cons _ _ => cases e
  | cons _ _ => cases its with
    | nil => cases e
    | cons _ _ => rfl in
#guard_msgs (pass all) in open Nat
def oEqNilM : DO2 := fun x y cs P => ∃ a xs, x = .opq (.ref a) ∧ y = .lst [] ∧ look a cs = some (.lst xs) ∧ P (.bl xs.isEmpty) cs
theorem adq_eqNilM : Adq K (rEqNil K) oEqNilM := fun F cs H x y dx dy P Q s rx ry ho pe => by
  obtain ⟨a, xs, rfl, rfl, hl, h⟩ := ho
  cases rx
  cases ry with | lst h2 z =>
  cases z
  obtain ⟨vs, e, rl⟩ := lst_at s hl
  refine ⟨a, _, vs, rfl, rfl, SqL.of e, ex_l pur_le h2, ?_⟩
  have e2 : vs.isEmpty = xs.isEmpty := by cases rl <;> rfl
  rw [e2]
  exact pe H cs _ _ s (.bl _) h in
#guard_msgs (pass all) in open Nat
theorem dt_eqNilM {a b : Expr} {wa wb : DL.WE} (hu : X.A.units + 64 < cLine) (ha : DE X W a wa) (hb : DE X W b wb) : DT X W (.Compare a [.Eq] [b] pos) (wTest (wOp oEqNilM wa wb)) := dt_cmp (op_eqNil hu) adq_eqNilM ha hb (nomark _)
section
variable {ρ : DL.Env} {cs : Cs} {P : DP} {Z : XZ} {fs : List (Str × D)} {a b dx : Addr} {fi : Fin} {d : D} {xs : List D}
theorem r_fld (h : wo ρ cs (fun x cs1 => oFld c fl x cs1 P) Z) : wFld c fl wo ρ cs P Z := h
theorem r_fldI {y : D} (hl : fs.lookup fl = some y) (h : P y cs) : oFld c fl (.ins c fs) cs P := ⟨fs, y, .inl rfl, hl, h⟩
theorem r_fldM {y : D} (ha : look a cs = some (.ins c b dx fs)) (hb : b = a) (hl : fs.lookup fl = some y) (h : P y cs) : oFld c fl (.opq (.ref a)) cs P := by
  subst hb
  exact ⟨fs, y, .inr ⟨b, dx, rfl, ha⟩, hl, h⟩ in
#guard_msgs (pass all) in open Nat
theorem r_meth {sp : DSp} (h : wo ρ cs (fun x cs1 => ∃ fs, FldsO c fs x cs1 ∧ fs.lookup m = none ∧ w ρ cs1 (fun ds cs2 => sp (x :: ds) cs2 P Z) Z) Z) : wMeth c m sp [] wo w ρ cs P Z := by
  have e : (fun (x : D) (cs1 : Cs) => ∃ fs, FldsO c fs x cs1 ∧ fs.lookup m = none ∧ w ρ cs1 (fun ds cs2 => sp (x :: (ds ++ [])) cs2 P Z) Z) = fun x cs1 => ∃ fs, FldsO c fs x cs1 ∧ fs.lookup m = none ∧ w ρ cs1 (fun ds cs2 => sp (x :: ds) cs2 P Z) Z := by
    funext x cs1
    simp only [List.append_nil]
  unfold wMeth
  rw [e]
  exact h in
#guard_msgs (pass all) in open Nat
theorem r_methI {R : Prop} (hl : fs.lookup m = none) (h : R) : ∃ fs', FldsO c fs' (.ins c fs) cs ∧ fs'.lookup m = none ∧ R := ⟨fs, .inl rfl, hl, h⟩
theorem r_methM {R : Prop} (ha : look a cs = some (.ins c a dx fs)) (hl : fs.lookup m = none) (h : R) : ∃ fs', FldsO c fs' (.opq (.ref a)) cs ∧ fs'.lookup m = none ∧ R := ⟨fs, .inr ⟨a, dx, rfl, ha⟩, hl, h⟩
theorem r_mkF {g : List D → List (Str × D)} (h : w ρ cs (fun ds cs1 => ds.length = n ∧ P (.ins c (g ds)) cs1) Z) : wMkF c g n w ρ cs P Z := h
theorem r_make {sp : DSp} (h : w ρ cs (fun ds cs1 => ∀ x dx, x ∉ adr cs1 → sp (.opq (.ref x) :: (ds ++ dds)) ((x, .ins c x dx []) :: cs1) (fun d cs2 => d = .non ∧ P (.opq (.ref x)) cs2) Z) Z) : wMake c sp dds w ρ cs P Z := h
theorem r_makeG {sp : DSp} {is : List Nat} {ms : List D} (h : w ρ cs (fun ds cs1 => wk ρ cs1 (fun zs cs2 => ∀ x dx, x ∉ adr cs2 → sp (.opq (.ref x) :: (ds ++ pickL is (ms ++ zs))) ((x, .ins c x dx []) :: cs2) (fun d cs3 => d = .non ∧ P (.opq (.ref x)) cs3) Z) Z) Z) : wMakeG c sp is ms w wk ρ cs P Z := h
theorem r_sfld (h : wv ρ cs (fun y cs1 => wo ρ cs1 (fun x cs2 => ∃ a b dx fs, x = .opq (.ref a) ∧ look a cs2 = some (.ins c b dx fs) ∧ fs.length < 1000 ∧ fi.nx ρ (put a (.ins c b dx (putFD fl y fs)) cs2)) (fun x cs1 => fi.ex x ρ cs1)) (fun x cs1 => fi.ex x ρ cs1)) : sFldD c fl wv wo fi ρ cs := h
theorem r_setf {R : Cs → Prop} {y : D} (ha : look a cs = some (.ins c b dx fs)) (hn : fs.length < 1000) (h : R (put a (.ins c b dx (putFD fl y fs)) cs)) : ∃ a' b' dx' fs', D.opq (.ref a) = .opq (.ref a') ∧ look a' cs = some (.ins c b' dx' fs') ∧ fs'.length < 1000 ∧ R (put a' (.ins c b' dx' (putFD fl y fs')) cs) := ⟨a, b, dx, fs, rfl, ha, hn, h⟩
theorem r_lenO {sp : DSp} {x : D} (hf : FldsO c fs x cs) (h : sp [x] cs (fun v cs' => ∃ n : Int, v = .int n ∧ (0 ≤ n ∧ n < 2 ^ 63) ∧ P (.int n) cs') fun _ _ => False) : oLenO c sp [x] cs P := ⟨x, fs, rfl, hf, h⟩
theorem r_reprO {sp : DSp} {x : D} (hf : FldsO c fs x cs) (h : sp [x] cs (fun v cs' => ∃ n : Str, v = .str n ∧ P (.str n) cs') fun _ _ => False) : oReprO c sp [x] cs P := ⟨x, fs, rfl, hf, h⟩
theorem r_eqNilM (hl : look a cs = some (.lst xs)) (h : P (.bl xs.isEmpty) cs) : oEqNilM (.opq (.ref a)) (.lst []) cs P := ⟨a, xs, rfl, rfl, hl, h⟩
end
end
end DL
namespace DL
open PySem PySem.Spec PyProof.Rows L2
structure NestS where
  dn : Bool
  inner : List Str
  lines : List (List Str)
structure StandS where
  wd : Int
  hg : Int
  most : Rat
  weighed : List (Str × Int)
  held : List (Str × NestS)
def nestD (a b c : D) : D := .ins "Nest" [("facing", a), ("inner", b), ("lines", c)]
def standD (a b c d : D) : D := .ins "Stand" [("measures", a), ("most", b), ("weighed", c), ("held", d)]
def linesD (l : List (List Str)) : List D := l.map fun l => .tup (l.map D.str)
def wgD (l : List (Str × Int)) : List (Key × D) := l.map fun q => (Sum.inr q.1, .int q.2)
abbrev NestS.d (n : NestS) : D := nestD (sideD n.dn) (.tup (n.inner.map D.str)) (.tup (linesD n.lines))
def hdD (l : List (Str × NestS)) : List (Key × D) := l.map fun q => (Sum.inr q.1, q.2.d)
abbrev StandS.d (s : StandS) : D := standD (.tup [.int s.wd, .int s.hg]) (dR s.most) (.dic (wgD s.weighed)) (.dic (hdD s.held))
def gNest (ds : List D) : List (Str × D) := [("facing", ds.getD 0 .non), ("inner", ds.getD 1 .non), ("lines", ds.getD 2 .non)]
def gStand (ds : List D) : List (Str × D) := [("measures", ds.getD 0 .non), ("most", ds.getD 1 .non), ("weighed", ds.getD 2 .non), ("held", ds.getD 3 .non)]
def houseM (h dx : Addr) (now past later shown : D) : MO := .ins "House" h dx [("now", now), ("past", past), ("later", later), ("shown_now", shown)]
section
variable {cs : Cs} {P : DP} {a b c d : D} {h dx : Addr} {n p l s v : D} {fi : Fin} {R : Cs → Prop}
theorem r_mkNest (z : P (nestD a b c) cs) : ([a, b, c] : List D).length = 3 ∧ P (.ins "Nest" (gNest [a, b, c])) cs := ⟨rfl, z⟩
theorem r_mkStand (z : P (standD a b c d) cs) : ([a, b, c, d] : List D).length = 4 ∧ P (.ins "Stand" (gStand [a, b, c, d])) cs := ⟨rfl, z⟩
theorem r_facing (z : P a cs) : oFld "Nest" "facing" (nestD a b c) cs P := r_fldI rfl z
theorem r_inner (z : P b cs) : oFld "Nest" "inner" (nestD a b c) cs P := r_fldI rfl z
theorem r_lines (z : P c cs) : oFld "Nest" "lines" (nestD a b c) cs P := r_fldI rfl z
theorem r_measures (z : P a cs) : oFld "Stand" "measures" (standD a b c d) cs P := r_fldI rfl z
theorem r_most (z : P b cs) : oFld "Stand" "most" (standD a b c d) cs P := r_fldI rfl z
theorem r_weighed (z : P c cs) : oFld "Stand" "weighed" (standD a b c d) cs P := r_fldI rfl z
theorem r_held (z : P d cs) : oFld "Stand" "held" (standD a b c d) cs P := r_fldI rfl z
theorem r_now (e : look h cs = some (houseM h dx n p l s)) (z : P n cs) : oFld "House" "now" (.opq (.ref h)) cs P := r_fldM e rfl rfl z
theorem r_past (e : look h cs = some (houseM h dx n p l s)) (z : P p cs) : oFld "House" "past" (.opq (.ref h)) cs P := r_fldM e rfl rfl z
theorem r_later (e : look h cs = some (houseM h dx n p l s)) (z : P l cs) : oFld "House" "later" (.opq (.ref h)) cs P := r_fldM e rfl rfl z
theorem r_shown (e : look h cs = some (houseM h dx n p l s)) (z : P s cs) : oFld "House" "shown_now" (.opq (.ref h)) cs P := r_fldM e rfl rfl z
theorem r_mNest {m : Str} {Q : Prop} (e : ([("facing", a), ("inner", b), ("lines", c)] : List (Str × D)).lookup m = none) (z : Q) : ∃ fs', FldsO "Nest" fs' (nestD a b c) cs ∧ fs'.lookup m = none ∧ Q := r_methI e z
theorem r_mStand {m : Str} {Q : Prop} (e : ([("measures", a), ("most", b), ("weighed", c), ("held", d)] : List (Str × D)).lookup m = none) (z : Q) : ∃ fs', FldsO "Stand" fs' (standD a b c d) cs ∧ fs'.lookup m = none ∧ Q := r_methI e z
theorem r_mHouse {m : Str} {Q : Prop} (e : look h cs = some (houseM h dx n p l s)) (e2 : ([("now", n), ("past", p), ("later", l), ("shown_now", s)] : List (Str × D)).lookup m = none) (z : Q) : ∃ fs', FldsO "House" fs' (.opq (.ref h)) cs ∧ fs'.lookup m = none ∧ Q := r_methM e e2 z
theorem fldsHouse (e : look h cs = some (houseM h dx n p l s)) : FldsO "House" [("now", n), ("past", p), ("later", l), ("shown_now", s)] (.opq (.ref h)) cs := .inr ⟨h, dx, rfl, e⟩
theorem r_setNow (e : look h cs = some (houseM h dx n p l s)) (z : R (put h (houseM h dx v p l s) cs)) : ∃ a' b' dx' fs', D.opq (.ref h) = .opq (.ref a') ∧ look a' cs = some (.ins "House" b' dx' fs') ∧ fs'.length < 1000 ∧ R (put a' (.ins "House" b' dx' (putFD "now" v fs')) cs) := r_setf e (show 4 < 1000 by decide) z
theorem r_setPast (e : look h cs = some (houseM h dx n p l s)) (z : R (put h (houseM h dx n v l s) cs)) : ∃ a' b' dx' fs', D.opq (.ref h) = .opq (.ref a') ∧ look a' cs = some (.ins "House" b' dx' fs') ∧ fs'.length < 1000 ∧ R (put a' (.ins "House" b' dx' (putFD "past" v fs')) cs) := r_setf e (show 4 < 1000 by decide) z
theorem r_setLater (e : look h cs = some (houseM h dx n p l s)) (z : R (put h (houseM h dx n p v s) cs)) : ∃ a' b' dx' fs', D.opq (.ref h) = .opq (.ref a') ∧ look a' cs = some (.ins "House" b' dx' fs') ∧ fs'.length < 1000 ∧ R (put a' (.ins "House" b' dx' (putFD "later" v fs')) cs) := r_setf e (show 4 < 1000 by decide) z
theorem r_setShown (e : look h cs = some (houseM h dx n p l s)) (z : R (put h (houseM h dx n p l v) cs)) : ∃ a' b' dx' fs', D.opq (.ref h) = .opq (.ref a') ∧ look a' cs = some (.ins "House" b' dx' fs') ∧ fs'.length < 1000 ∧ R (put a' (.ins "House" b' dx' (putFD "shown_now" v fs')) cs) := r_setf e (show 4 < 1000 by decide) z
end
section
variable {nx : DL.Env → Cs → Prop} {rt : DP} {ex : Exn → DL.Env → Cs → Prop} {bk ct : DL.Env → Cs → Prop} {c fl : Str} {wv wo : DL.WE} {ρ : DL.Env} {cs : Cs}
theorem q_sfld (h : wv ρ cs (fun y cs1 => wo ρ cs1 (fun x cs2 => ∃ a b dx fs, x = .opq (.ref a) ∧ look a cs2 = some (.ins c b dx fs) ∧ fs.length < 1000 ∧ nx ρ (put a (.ins c b dx (putFD fl y fs)) cs2)) (fun x cs1 => ex x ρ cs1)) (fun x cs1 => ex x ρ cs1)) : sFldD c fl wv wo ⟨nx, rt, ex, bk, ct⟩ ρ cs := h
end
def StandS.nest (s : StandS) (n : Str) : Option NestS := lk s.held n
def StandS.inn (s : StandS) (n : Str) : List Str := match s.nest n with
  | some x => x.inner
  | none => []
/-- all names in a nest however deep -/
def StandS.within (s : StandS) : Nat → Str → List Str
  | 0, _ => []
  | f + 1, n => if (lk s.weighed n).isSome then [] else (s.inn n).flatMap fun x => x :: s.within f x
def StandS.weight (s : StandS) (n : Str) : Int := match lk s.weighed n with
  | some w => w
  | none => ((s.within 6 n).filterMap (lk s.weighed)).sum
def StandS.heavy (s : StandS) (n : Str) : List Str := (s.inn n).filter fun x => decide (0 < s.weight x)
def StandS.boxesIn (s : StandS) (n : Str) (b : Bx) : NB := match s.nest n with
  | some x => (s.heavy n).zip (laidB b ((s.heavy n).map s.weight) (x.lines.map fun l => (l.length : Int)) x.dn)
  | none => []
def StandS.order (s : StandS) : Nat → List Str → List Str
  | 0, _ => []
  | _, [] => []
  | f + 1, n :: r => n :: s.order f (((s.inn n).filter fun x => (s.nest x).isSome) ++ r)
def StandS.boxes (s : StandS) : NB := if s.weight "" = 0 then [] else
  (s.order 50 [""]).foldl (fun f n => match lk f n with
    | some b => (s.boxesIn n b).foldl (fun f q => putD f q.1 q.2) f
    | none => f) [("", ⟨0, 0, s.wd, s.hg⟩)]
end DL
namespace DL
open PySem PySem.Spec PyProof.Rows L2
theorem lk_mapR {α β : Type} (g : α → β) (x : Str) : ∀ l : List (Str × α), lk (l.map fun q => ((Sum.inr q.1 : Key), g q.2)) (Sum.inr x) = (lk l x).map g
  | [] => rfl
  | (y, v) :: r => by
    have ih := lk_mapR g x r
    rw [List.map_cons]
    by_cases e : y = x
    · subst e
      simp [lk]
    · have e2 : ¬ ((Sum.inr y : Key) = Sum.inr x) := fun z => e (Sum.inr.inj z)
      simp only [lk] at ih ⊢
      simp_all [lk] in
#guard_msgs (pass all) in open Nat
theorem lk_wg {l : List (Str × Int)} {x : Str} : lk (wgD l) (Sum.inr x) = (lk l x).map D.int := lk_mapR _ x l
theorem lk_hdD {l : List (Str × NestS)} {x : Str} : lk (hdD l) (Sum.inr x) = (lk l x).map NestS.d := lk_mapR _ x l
theorem lk_wgS {l : List (Str × Int)} {x : Str} : (lk (wgD l) (Sum.inr x)).isSome = (lk l x).isSome := by rw [lk_wg]; cases lk l x <;> rfl in
#guard_msgs (pass all) in open Nat
theorem lk_hdS {l : List (Str × NestS)} {x : Str} : (lk (hdD l) (Sum.inr x)).isSome = (lk l x).isSome := by rw [lk_hdD]; cases lk l x <;> rfl in
#guard_msgs (pass all) in open Nat
def StandS.known (s : StandS) (x : Str) : Bool := decide (x ≠ "") && ((lk s.weighed x).isSome || (lk s.held x).isSome)
def StandS.isNest (s : StandS) (x : Str) : Bool := (lk s.held x).isSome
end DL
namespace DL
open PySem PySem.Spec PyProof.Rows L2
def StandS.names (s : StandS) : List Str := sortN (s.weighed.map (·.1) ++ (s.held.map (·.1)).filter fun x : Str => decide (x ≠ ("" : Str)))
structure StOk (s : StandS) : Prop where
  wd : 1 ≤ s.wd ∧ s.wd ≤ 1000
  hg : 1 ≤ s.hg ∧ s.hg ≤ 1000
  mo : 1 ≤ s.most ∧ s.most.num < 10 ^ 30
  cnt : s.weighed.length + s.held.length ≤ 41
  inn : ∀ q ∈ s.held, q.2.inner.length ≤ 12 ∧ q.2.lines.length ≤ 12 ∧ ∀ l ∈ q.2.lines, l.length ≤ 12
def HAt (h : Addr) (s : StandS) (cs : Cs) : Prop := ∃ dx p l sh, look h cs = some (houseM h dx s.d p l sh)
def owns (h : Addr) (cs : Cs) : List Addr := match look h cs with
  | some (.ins _ _ _ [_, (_, .opq (.ref p)), (_, .opq (.ref l)), _]) => [h, p, l]
  | _ => [h]
def HouseIn (h : Addr) (s : StandS) (ps ls : List StandS) (cs : Cs) : Prop := ∃ dx p l sh, look h cs = some (houseM h dx s.d (.opq (.ref p)) (.opq (.ref l)) sh) ∧ (sh = .non ∨ sh = .dic (dicB s.boxes)) ∧ look p cs = some (.lst (ps.map StandS.d)) ∧ look l cs = some (.lst (ls.map StandS.d)) ∧ p ≠ l
theorem HouseIn.at_ {h : Addr} {s : StandS} {ps ls : List StandS} {cs : Cs} (H : HouseIn h s ps ls cs) : HAt h s cs := by
  obtain ⟨dx, p, l, sh, e, _⟩ := H
  exact ⟨dx, _, _, _, e⟩ in
#guard_msgs (pass all) in open Nat
structure HFr (h : Addr) (cs cs' : Cs) : Prop where
  keep : ∀ q m, look q cs = some m → q ∉ owns h cs → look q cs' = some m
  own : ∀ q, q ∈ owns h cs' → q ∈ owns h cs ∨ look q cs = none
def newS (w h : Int) (b : Rat) (dn : Bool) : StandS := ⟨w, h, b, [], [("", ⟨dn, [], []⟩)]⟩
theorem newS_ok {w h : Int} {b : Rat} {dn : Bool} (hw : 1 ≤ w ∧ w ≤ 1000) (hh : 1 ≤ h ∧ h ≤ 1000) (hb : 1 ≤ b ∧ b.num < 10 ^ 30) : StOk (newS w h b dn) := ⟨hw, hh, hb, by show 0 + 1 ≤ 41; decide, fun q hq => by
  rw [List.mem_singleton.mp hq]
  exact ⟨Nat.zero_le _, Nat.zero_le _, fun l hl => (nomatch hl)⟩⟩
theorem newS_weight {w h : Int} {b : Rat} {dn : Bool} : (newS w h b dn).weight "" = 0 := rfl
theorem newS_boxes {w h : Int} {b : Rat} {dn : Bool} : (newS w h b dn).boxes = [] := by
  unfold StandS.boxes
  rw [if_pos newS_weight] in
#guard_msgs (pass all) in open Nat
end DL
namespace DL
open PySem PySem.Spec PyProof.Rows L2
def houseT (w h : Int) (n : Nat) : Str := "House(" ++ ((toString w : String) : Str) ++ " x " ++ ((toString h : String) : Str) ++ ", " ++ ((toString (n : Int) : String) : Str) ++ " things)"
end DL
namespace DL
open PySem PySem.Spec PyProof.Rows L2
theorem r_lenXM {p : Addr} {xs : List D} {cs : Cs} {P : DP} (hl : look p cs = some (.lst xs)) (h : P (.int (xs.length : Int)) cs) : oLenX [.opq (.ref p)] cs P := ⟨_, xs, rfl, by simp [lstOf, hl], h⟩
/-- a house's bound -/
def hbD : D → Bool
  | .tup [.int a, .int b] => partD (.tup [.int a, .int b]) && decide (b ≤ a) && decide (a < 10 ^ 30)
  | _ => false
theorem hbD_inv {d : D} (h : hbD d = true) : ∃ r : Rat, d = dR r ∧ 1 ≤ r ∧ r.num < 10 ^ 30 := by
  match d, h with
  | .tup [.int a, .int b], h =>
    have h : (partD (.tup [.int a, .int b]) && decide (b ≤ a) && decide (a < 10 ^ 30)) = true := h
    obtain ⟨h1, h3⟩ := Bool.and_eq_true_iff.mp h
    obtain ⟨h1, h2⟩ := Bool.and_eq_true_iff.mp h1
    obtain ⟨r, e⟩ := partD_inv h1
    unfold dR at e
    simp only [D.tup.injEq, List.cons.injEq, D.int.injEq, and_true] at e
    obtain ⟨e1, e2⟩ := e
    subst e1 e2
    refine ⟨r, rfl, ?_, of_decide_eq_true h3⟩
    rw [Rat.le_iff]
    have := of_decide_eq_true h2
    simpa using this in
#guard_msgs (pass all) in open Nat
theorem hbD_dR {r : Rat} : hbD (dR r) = (decide (1 ≤ r) && decide (r.num < 10 ^ 30)) := by
  show (partD (dR r) && decide ((r.den : Int) ≤ r.num) && decide (r.num < 10 ^ 30)) = _
  rw [partD_dR, Bool.true_and]
  congr 1
  exact decide_eq_decide.mpr (by rw [Rat.le_iff]; simp) in
#guard_msgs (pass all) in open Nat
/-- what a new house is refused by -/
def whyNew (a b bd sd : D) : Str := if (szD a 1000 && szD b 1000) = true then (if hbD bd = true then (if sideB sd = true then "" else "BadSide") else "BadBound") else "BadBox"
theorem szD_inv {d : D} {m : Int} (h : szD d m = true) : ∃ a : Int, d = .int a ∧ 1 ≤ a ∧ a ≤ m := by
  cases d <;> first | exact absurd h Bool.false_ne_true | exact ⟨_, rfl, of_decide_eq_true h⟩ in
#guard_msgs (pass all) in open Nat
end DL
namespace DL
open PySem PySem.Spec PyProof.Rows L2
theorem lkM {α : Type} {x : Str} {v : α} : ∀ {l : List (Str × α)}, lk l x = some v → (x, v) ∈ l
  | [], e => by cases e
  | (y, u) :: r, e => by
    by_cases h : y = x
    · subst h
      rw [look_pos rfl] at e
      cases e
      exact List.mem_cons_self ..
    · rw [look_neg h] at e
      exact List.mem_cons_of_mem _ (lkM e)
end DL
namespace DL
open PySem PySem.Spec PyProof.Rows L2
section
variable {h dx p l q : Addr} {n n' sh sh' : D} {cs cs1 cs2 : Cs} {s : StandS} {ps ls : List StandS}
theorem owns_of (e : look h cs = some (houseM h dx n (.opq (.ref p)) (.opq (.ref l)) sh)) : owns h cs = [h, p, l] := by unfold owns; rw [e]; rfl in
#guard_msgs (pass all) in open Nat
theorem HFr.refl : HFr h cs cs := ⟨fun _ _ e _ => e, fun _ e => .inl e⟩
theorem HFr.trans (a : HFr h cs cs1) (b : HFr h cs1 cs2) : HFr h cs cs2 := by
  refine ⟨fun q m e hq => b.keep q m (a.keep q m e hq) fun z => ?_, fun q hq => ?_⟩
  · rcases a.own q z with z | z
    · exact hq z
    · rw [e] at z; cases z
  · rcases b.own q hq with z | z
    · exact a.own q z
    · by_cases hw : q ∈ owns h cs
      · exact .inl hw
      · cases e : look q cs with
        | none => exact .inr rfl
        | some m => rw [a.keep q m e hw] at z; cases z in
#guard_msgs (pass all) in open Nat
theorem HFr.put (e : look h cs = some (houseM h dx n (.opq (.ref p)) (.opq (.ref l)) sh)) : HFr h cs (DL.put h (houseM h dx n' (.opq (.ref p)) (.opq (.ref l)) sh') cs) := by
  refine ⟨fun q m eq hq => ?_, fun q hq => ?_⟩
  · rw [look_put_ne (fun z => hq (by rw [owns_of e, z]; exact List.mem_cons_self ..))]; exact eq
  · rw [owns_of (look_put e)] at hq
    rw [owns_of e]
    exact .inl hq in
#guard_msgs (pass all) in open Nat
theorem HouseIn.shown (e : look h cs = some (houseM h dx s.d (.opq (.ref p)) (.opq (.ref l)) sh)) (ep : look p cs = some (.lst (ps.map StandS.d))) (el : look l cs = some (.lst (ls.map StandS.d))) (hn : p ≠ l) (hs : sh' = .non ∨ sh' = .dic (dicB s.boxes)) :
    HouseIn h s ps ls (DL.put h (houseM h dx s.d (.opq (.ref p)) (.opq (.ref l)) sh') cs) := by
  have p1 : p ≠ h := fun z => by rw [z, e] at ep; cases ep
  have l1 : l ≠ h := fun z => by rw [z, e] at el; cases el
  exact ⟨dx, p, l, sh', look_put e, hs, by rw [look_put_ne p1]; exact ep, by rw [look_put_ne l1]; exact el, hn⟩ in
#guard_msgs (pass all) in open Nat
/-- what lies beside the house may grow -/
theorem HouseIn.more (H : HouseIn h s ps ls cs) (k : ∀ a m, look a cs = some m → look a cs1 = some m) : HouseIn h s ps ls cs1 := by
  obtain ⟨dx, p, l, sh, e, hs, ep, el, hn⟩ := H
  exact ⟨dx, p, l, sh, k _ _ e, hs, k _ _ ep, k _ _ el, hn⟩ in
#guard_msgs (pass all) in open Nat
theorem HFr.more (H : HouseIn h s ps ls cs) (k : ∀ a m, look a cs = some m → look a cs1 = some m) : HFr h cs cs1 := by
  obtain ⟨dx, p, l, sh, e, hs, ep, el, hn⟩ := H
  refine ⟨fun q m eq _ => k q m eq, fun q hq => ?_⟩
  rw [owns_of (k _ _ e)] at hq
  rw [owns_of e]
  exact .inl hq in
#guard_msgs (pass all) in open Nat
end
end DL
namespace DL
open PySem PySem.Spec PyProof.Rows L2
theorem r_mHouseA {h : Addr} {s : StandS} {cs : Cs} {m : Str} {Q : Prop} (e : HAt h s cs) (e2 : ∀ n p l sh : D, ([("now", n), ("past", p), ("later", l), ("shown_now", sh)] : List (Str × D)).lookup m = none) (z : Q) : ∃ fs', FldsO "House" fs' (.opq (.ref h)) cs ∧ fs'.lookup m = none ∧ Q := by
  obtain ⟨dx, p, l, sh, e⟩ := e
  exact r_mHouse e (e2 _ _ _ _) z in
#guard_msgs (pass all) in open Nat
theorem newS_lkw {w h : Int} {b : Rat} {dn : Bool} {x : Str} : (lk (newS w h b dn).weighed x).isSome = false := rfl
theorem newS_held {w h : Int} {b : Rat} {dn : Bool} : lk (hdD (newS w h b dn).held) (Sum.inr ("" : Str)) = some (⟨dn, [], []⟩ : NestS).d := by rw [lk_hdD]; rfl in
#guard_msgs (pass all) in open Nat
end DL
namespace DL
open PySem PySem.Spec PyProof.Rows L2
/-- data that the laws' same tells alike: dicts too -/
def smD : Nat → D → Bool
  | 0, _ => false
  | n + 1, .lst xs => decide (xs.length ≤ 100000) && xs.all (smD n)
  | n + 1, .tup xs => decide (xs.length ≤ 100000) && xs.all (smD n)
  | n + 1, .dic kvs => decide (kvs.length ≤ 1000) && decide ((kvs.map (·.1)).Nodup) && kvs.all fun q => smD n q.2
  | _ + 1, d => plD 1 d
theorem plD_kD (k : Key) : plD 1 (kD k) = true := by cases k <;> rfl
theorem plL_keys : ∀ l : List (Key × D), plL 1 (l.map fun p => kD p.1) = true
  | [] => rfl
  | q :: r => by
    show (plD 1 (kD q.1) && plL 1 (r.map fun p => kD p.1)) = true
    rw [plD_kD, plL_keys r]; rfl
theorem plD_keys {kvs : List (Key × D)} (h : kvs.length ≤ 1000) : plD 20 (.lst (kvs.map fun p => kD p.1)) = true := by
  refine plD_mono _ (n := 2) ?_ (by decide)
  show (decide ((kvs.map fun p => kD p.1).length ≤ 100000) && plL 1 (kvs.map fun p => kD p.1)) = true
  rw [plL_keys, Bool.and_true, decide_eq_true_eq, List.length_map]
  omega in
#guard_msgs (pass all) in open Nat
end DL
namespace DL
open PySem PySem.Spec PyProof.Rows L2
/-- the laws' own model of a new house -/
def newL (w h : Int) (b : Rat) (dn : Bool) : D := .dic [(Sum.inr ("size" : Str), .tup [.int w, .int h]), (Sum.inr ("bound" : Str), dR b), (Sum.inr ("things" : Str), .dic []), (Sum.inr ("nests" : Str), .dic [(Sum.inr ("" : Str), .tup [sideD dn, .lst [], .lst []])])]
end DL
namespace DL
open PySem PySem.Spec PyProof.Rows L2
section
variable {w h : Int} {b : Rat} {dn : Bool} {cs : Cs} {P : DP} {d : D}
theorem r_LS (z : P (.tup [.int w, .int h]) cs) : oGetD (newL w h b dn) (.str "size") cs P := r_getKS rfl z
theorem r_LB (z : P (dR b) cs) : oGetD (newL w h b dn) (.str "bound") cs P := r_getKS rfl z
theorem r_LT (z : P (.dic []) cs) : oGetD (newL w h b dn) (.str "things") cs P := r_getKS rfl z
theorem r_LN (z : P (.dic [(Sum.inr ("" : Str), .tup [sideD dn, .lst [], .lst []])]) cs) : oGetD (newL w h b dn) (.str "nests") cs P := r_getKS rfl z
theorem r_LN1 (z : P d cs) : oGetD (.dic [(Sum.inr ("" : Str), d)]) (.str "") cs P := r_getKS (by rw [lk, if_pos rfl]) z
end
end DL
namespace DL
open PySem PySem.Spec PyProof.Rows L2
theorem newS_names {w h : Int} {b : Rat} {dn : Bool} : (newS w h b dn).names = [] := by
  unfold StandS.names
  rw [show (newS w h b dn).weighed.map (·.1) ++ ((newS w h b dn).held.map (·.1)).filter (fun x : Str => decide (x ≠ ("" : Str))) = [] from rfl]
  exact List.mergeSort_nil in
#guard_msgs (pass all) in open Nat
end DL
namespace DL
open PySem PySem.Spec PyProof.Rows L2
theorem r_getkD {kvs : List (Key × D)} {k : Key} {d : D} {cs : Cs} {P : DP} (h1 : lk kvs k = some d) (h : P d cs) : oGetD (.dic kvs) (kD k) cs P := by
  cases k with
  | inl i => exact r_getKI h1 h
  | inr x => exact r_getKS h1 h in
#guard_msgs (pass all) in open Nat
end DL
namespace DL
open PySem PySem.Spec PyProof.Rows L2
theorem r_lenOA {h : Addr} {s : StandS} {sp : DSp} {cs : Cs} {P : DP} (e : HAt h s cs) (z : sp [.opq (.ref h)] cs (fun v cs' => ∃ n : Int, v = .int n ∧ (0 ≤ n ∧ n < 2 ^ 63) ∧ P (.int n) cs') fun _ _ => False) : oLenO "House" sp [.opq (.ref h)] cs P := by
  obtain ⟨dx, p, l, sh, e⟩ := e
  exact r_lenO (fldsHouse e) z in
#guard_msgs (pass all) in open Nat
theorem r_reprOA {h : Addr} {s : StandS} {sp : DSp} {cs : Cs} {P : DP} (e : HAt h s cs) (z : sp [.opq (.ref h)] cs (fun v cs' => ∃ n : Str, v = .str n ∧ P (.str n) cs') fun _ _ => False) : oReprO "House" sp [.opq (.ref h)] cs P := by
  obtain ⟨dx, p, l, sh, e⟩ := e
  exact r_reprO (fldsHouse e) z in
#guard_msgs (pass all) in open Nat
theorem look_no {q : Addr} {cs : Cs} (h : q ∉ adr cs) : look q cs = none := by
  cases e : look q cs with
  | none => rfl
  | some m => exact absurd (look_in e) h in
#guard_msgs (pass all) in open Nat
end DL
namespace DL
theorem num_divInt_le {a b : Int} (ha : 0 ≤ a) (hb : 0 < b) : (Rat.divInt a b).num ≤ a := by
  rw [Rat.num_divInt, Int.sign_eq_one_of_pos hb, Int.one_mul]
  exact Int.ediv_le_self _ ha in
#guard_msgs (pass all) in open Nat
end DL
namespace DL
open PySem PySem.Spec PyProof.Rows L2
/-- bag, lambda table and house beside one another -/
structure LawH (p t : Addr) (m : MO) (x : Addr) (s : StandS) (ps ls : List StandS) (cs : Cs) : Prop where
  bag : BagIn p cs
  tb : look t cs = some m
  hou : HouseIn x s ps ls cs
  np : p ∉ owns x cs
  nt : t ∉ owns x cs
theorem BagIn.fr {p : Addr} {cs cs' : Cs} (h : BagIn p cs) (k : ∀ m, look p cs = some m → look p cs' = some m) : BagIn p cs' := by
  obtain ⟨b, e, hb⟩ := h
  exact ⟨b, k _ e, hb⟩ in
#guard_msgs (pass all) in open Nat
section
variable {p t x : Addr} {m : MO} {s s' : StandS} {ps ls ps' ls' : List StandS} {cs cs' : Cs}
theorem LawH.new (hb : BagIn p cs) (ht : look t cs = some m) (hi : HouseIn x s ps ls cs') (k : ∀ q m, look q cs = some m → look q cs' = some m) (ho : ∀ q ∈ owns x cs', look q cs = none) : LawH p t m x s ps ls cs' := by
  obtain ⟨b, e, hb2⟩ := id hb
  refine ⟨hb.fr fun m => k _ m, k _ _ ht, hi, fun z => ?_, fun z => ?_⟩
  · rw [ho p z] at e; cases e
  · rw [ho t z] at ht; cases ht in
#guard_msgs (pass all) in open Nat
theorem LawH.step (H : LawH p t m x s ps ls cs) (hi : HouseIn x s' ps' ls' cs') (f : HFr x cs cs') : LawH p t m x s' ps' ls' cs' := by
  obtain ⟨b, e, hb2⟩ := id H.bag
  have ht := H.tb
  refine ⟨H.bag.fr fun m e => f.keep _ m e H.np, f.keep _ _ ht H.nt, hi, fun z => ?_, fun z => ?_⟩
  · rcases f.own p z with q | q
    · exact H.np q
    · rw [q] at e; cases e
  · rcases f.own t z with q | q
    · exact H.nt q
    · rw [q] at ht; cases ht in
#guard_msgs (pass all) in open Nat
end
theorem whyNew_ok {w h : Int} {r : Rat} {dn : Bool} (hw : 1 ≤ w ∧ w ≤ 1000) (hh : 1 ≤ h ∧ h ≤ 1000) (hr : 1 ≤ r ∧ r.num < 10 ^ 30) : whyNew (.int w) (.int h) (dR r) (sideD dn) = "" := by
  unfold whyNew
  rw [if_pos (by rw [Bool.and_eq_true]; exact ⟨decide_eq_true hw, decide_eq_true hh⟩), if_pos (by rw [hbD_dR, Bool.and_eq_true]; exact ⟨decide_eq_true hr.1, decide_eq_true hr.2⟩), if_pos (sideB_side dn)] in
#guard_msgs (pass all) in open Nat
end DL
namespace DL
open PySem PySem.Spec PyProof.Rows L2
theorem lenApp (x y : Str) : (x ++ y).length = x.length + y.length := by rw [TL.len_tl, TL.tl_append, List.length_append, ← TL.len_tl, ← TL.len_tl] in
#guard_msgs (pass all) in open Nat
theorem houseT0 {w h : Int} : "House(" ++ numT w ++ " x " ++ numT h ++ ", 0 things)" = houseT w h 0 := by
  unfold houseT
  apply TL.ext_tl
  simp only [TL.tl_append, List.append_assoc]
  rfl in
#guard_msgs (pass all) in open Nat
theorem num3 {w : Int} (h : 1 ≤ w ∧ w ≤ 1000) : (numT w).length ≤ 5 ∧ w.natAbs.log2 < 1920 := by
  have h1 : w.natAbs < 10 ^ 4 := by omega
  exact ⟨numT_len (by decide) h1, log_of (n := 1900) (Nat.lt_of_lt_of_le h1 (by decide)) (by decide)⟩ in
#guard_msgs (pass all) in open Nat
end DL
namespace DL
open PySem PySem.Spec PyProof.Rows L2
/-- the first word that is due for a new house, as the law k45 tells it -/
def dueL (b1 b2 b3 : Bool) : List (Str × Bool) := [("BadBox", !b1), ("BadBound", !b2), ("BadSide", !b3)]
theorem dueL_at (a b bd sd : D) : atD ((((dueL (szD a 1000 && szD b 1000) (hbD bd) (sideB sd)).filter (·.2)).map fun q => D.str q.1) ++ [D.str ""]) 0 = some (.str (whyNew a b bd sd)) := by
  unfold whyNew dueL
  cases (szD a 1000 && szD b 1000) <;> cases hbD bd <;> cases sideB sd <;> rfl in
#guard_msgs (pass all) in open Nat
end DL
namespace DL
open PySem PySem.Spec PyProof.Rows L2
theorem whyNew_in {a b c d : D} (h : whyNew a b c d ≠ "") : whyNew a b c d = "BadBox" ∨ whyNew a b c d = "BadBound" ∨ whyNew a b c d = "BadSide" := by
  unfold whyNew at h ⊢
  split
  · split
    · split
      · rename_i h1 h2 h3
        rw [if_pos h1, if_pos h2, if_pos h3] at h
        exact absurd rfl h
      · exact .inr (.inr rfl)
    · exact .inr (.inl rfl)
  · exact .inl rfl in
#guard_msgs (pass all) in open Nat
end DL
namespace DL
open PySem PySem.Spec PyProof.Rows L2
theorem allMem {xs : List D} {p : D → Bool} {x : D} (h : xs.all p = true) (hx : x ∈ xs) : p x = true := List.all_eq_true.mp h x hx
/-- a pair of things that are known -/
def prK : D → Bool
  | .tup [a, b] => knD a && knD b
  | _ => false
theorem prK_inv {d : D} (h : prK d = true) : ∃ a b : D, d = .tup [a, b] ∧ knD a = true ∧ knD b = true := by
  match d, h with
  | .tup [a, b], h =>
    obtain ⟨h1, h2⟩ := Bool.and_eq_true_iff.mp (show (knD a && knD b) = true from h)
    exact ⟨a, b, rfl, h1, h2⟩ in
#guard_msgs (pass all) in open Nat
end DL
namespace DL
open PySem PySem.Spec PyProof.Rows L2
end DL
namespace DL
open PySem PySem.Spec PyProof.Rows L2
def Bx.Cd (b : Bx) (m : Nat) : Prop := ∃ d l t w h : Int, (1 ≤ d ∧ d < 2 ^ m) ∧ (b.l * (d : Rat) = (l : Rat) ∧ b.t * (d : Rat) = (t : Rat) ∧ b.w * (d : Rat) = (w : Rat) ∧ b.h * (d : Rat) = (h : Rat)) ∧ (0 ≤ l ∧ 0 ≤ t ∧ 0 ≤ w ∧ 0 ≤ h) ∧ l + w ≤ 1000 * d ∧ t + h ≤ 1000 * d
theorem cd_step {x y : Rat} {d k v p s : Int} (hs : s ≠ 0) (ex : x * (d : Rat) = (k : Rat)) (ey : y * (d : Rat) = (v : Rat)) : (x + y * Rat.divInt p s) * ((d * s : Int) : Rat) = ((k * s + v * p : Int) : Rat) := by
  have hs' : (s : Rat) ≠ 0 := fun z => hs (by exact_mod_cast z)
  rw [Rat.divInt_eq_div]
  have e : (p : Rat) / (s : Rat) * (s : Rat) = (p : Rat) := Rat.div_mul_cancel hs'
  push_cast
  generalize (p : Rat) / (s : Rat) = q at e
  grind in
#guard_msgs (pass all) in open Nat
theorem cd_mul {y : Rat} {d v p s : Int} (hs : s ≠ 0) (ey : y * (d : Rat) = (v : Rat)) : (y * Rat.divInt p s) * ((d * s : Int) : Rat) = ((v * p : Int) : Rat) := by
  have := cd_step (x := 0) (k := 0) (p := p) hs (by rw [Rat.zero_mul]; rfl) ey
  rw [Rat.zero_add, Int.zero_mul, Int.zero_add] at this
  exact this in
#guard_msgs (pass all) in open Nat
theorem cd_same {x : Rat} {d k s : Int} (ex : x * (d : Rat) = (k : Rat)) : x * ((d * s : Int) : Rat) = ((k * s : Int) : Rat) := by
  push_cast
  rw [← Rat.mul_assoc, ex] in
#guard_msgs (pass all) in open Nat
theorem split_cd {b : Bx} {m : Nat} (h : b.Cd m) {ws : List Int} (hw : WOk ws) (dn : Bool) {i : Nat} (hi : i < ws.length) : (splitAt_ b ws dn i).Cd (m + 23) := by
  obtain ⟨d, l, t, w, hh, ⟨h1, h2⟩, ⟨el, et, ew, eh⟩, ⟨l0, t0, w0, h0⟩, b1, b2⟩ := h
  have ei : ws[i]? = some ws[i] := List.getElem?_eq_getElem hi
  have eg : ws.getD i 0 = ws[i] := getD_of ei
  have p0 := preS_nonneg hw.pos i
  have p1 := preS_le hw.pos (i + 1)
  have q1 := hw.pos _ (List.getElem_mem hi)
  rw [preS_succ ei] at p1
  have s1 := hw.sum
  unfold splitAt_
  rw [eg]
  generalize preS ws i = p at *
  generalize ws[i] = q at *
  generalize ws.sum = s at *
  have hs : s ≠ 0 := by omega
  have s0 : 1 ≤ s := by omega
  have dpos : 1 ≤ d * s := by have := Int.mul_le_mul h1 s0 (by omega) (by omega); omega
  have dlt : d * s < 2 ^ (m + 23) := by
    rw [Int.pow_add]
    exact Int.lt_of_lt_of_le (Int.mul_lt_mul_of_pos_right h2 (by omega)) (Int.mul_le_mul_of_nonneg_left (Int.le_of_lt s1) (Int.le_of_lt (Int.pow_pos (by decide))))
  have nn : ∀ {a c : Int}, 0 ≤ a → 0 ≤ c → 0 ≤ a * c := fun x y => Int.mul_nonneg x y
  have far : ∀ {k v : Int}, 0 ≤ v → k + v ≤ 1000 * d → k * s + v * p + v * q ≤ 1000 * (d * s) := fun {k v} v0 kv => by
    have a1 : v * p + v * q ≤ v * s := by rw [← Int.mul_add]; exact Int.mul_le_mul_of_nonneg_left p1 v0
    have a2 : (k + v) * s ≤ 1000 * d * s := Int.mul_le_mul_of_nonneg_right kv (by omega)
    rw [Int.add_mul] at a2
    rw [Int.mul_assoc] at a2
    omega
  have far2 : ∀ {k v : Int}, k + v ≤ 1000 * d → k * s + v * s ≤ 1000 * (d * s) := fun {k v} kv => by
    have a2 : (k + v) * s ≤ 1000 * d * s := Int.mul_le_mul_of_nonneg_right kv (by omega)
    rw [Int.add_mul, Int.mul_assoc] at a2
    exact a2
  cases dn with
  | true =>
    refine ⟨d * s, l * s, t * s + hh * p, w * s, hh * q, ⟨dpos, dlt⟩, ⟨cd_same el, cd_step hs et eh, cd_same ew, cd_mul hs eh⟩, ⟨nn l0 (by omega), Int.add_nonneg (nn t0 (by omega)) (nn h0 p0), nn w0 (by omega), nn h0 (by omega)⟩, far2 b1, far h0 b2⟩
  | false =>
    refine ⟨d * s, l * s + w * p, t * s, w * q, hh * s, ⟨dpos, dlt⟩, ⟨cd_step hs el ew, cd_same et, cd_mul hs ew, cd_same eh⟩, ⟨Int.add_nonneg (nn l0 (by omega)) (nn w0 p0), nn t0 (by omega), nn w0 (by omega), nn h0 (by omega)⟩, far w0 b1, far2 b2⟩ in
#guard_msgs (pass all) in open Nat
theorem laid_cd {b : Bx} {ws zs : List Int} {m : Nat} (hw : WOk ws) (hz : SzOk zs ws.length) (dn : Bool) (hb : b.Cd m) {c : Bx} (h : c ∈ laidB b ws zs dn) : c.Cd (m + 46) := by
  have hs' := sums_wok hw hz
  unfold laidB at h
  obtain ⟨i, hi, h⟩ := List.mem_flatMap.mp h
  have hi := List.mem_range.mp hi
  unfold laidAt splitB at h
  obtain ⟨j, hj, rfl⟩ := List.mem_map.mp h
  have hj := List.mem_range.mp hj
  exact split_cd (split_cd hb hs' dn (by rw [sums_len]; exact hi)) (row_wok hw hz hi) _ hj in
#guard_msgs (pass all) in open Nat
theorem laid_pos {b : Bx} {ws zs : List Int} (hp : b.Pos) (hw : WOk ws) (hz : SzOk zs ws.length) (dn : Bool) {c : Bx} (h : c ∈ laidB b ws zs dn) : c.Pos := by
  have hs' := sums_wok hw hz
  unfold laidB at h
  obtain ⟨i, hi, h⟩ := List.mem_flatMap.mp h
  have hi := List.mem_range.mp hi
  have ei : (sumsOf ws zs)[i]? = some _ := sums_get hi
  unfold laidAt splitB at h
  obtain ⟨j, hj, rfl⟩ := List.mem_map.mp h
  have hj := List.mem_range.mp hj
  exact splitAt_pos (splitAt_pos hp hs' dn ei) (row_wok hw hz hi) (!dn) (List.getElem?_eq_getElem hj) in
#guard_msgs (pass all) in open Nat
end DL
namespace DL
open PySem PySem.Spec PyProof.Rows L2
structure Tre (s : StandS) : Prop where
  kw : (s.weighed.map (·.1)).Nodup
  kh : (s.held.map (·.1)).Nodup
  dj : ∀ x, (lk s.weighed x).isSome = true → lk s.held x = none
  w0 : lk s.weighed "" = none
  h0 : (lk s.held "").isSome = true
  wt : ∀ q ∈ s.weighed, 1 ≤ q.2 ∧ q.2 ≤ 10000
  cnt : s.weighed.length + s.held.length ≤ 41
  kid : ∀ n x, x ∈ s.inn n → x ≠ "" ∧ ((lk s.weighed x).isSome = true ∨ (lk s.held x).isSome = true)
  nd : ∀ n, (s.inn n).Nodup
  few : ∀ n, (s.inn n).length ≤ 12
  one : ∀ n m x, x ∈ s.inn n → x ∈ s.inn m → n = m
  all : ∀ x, s.known x = true → ∃ n, x ∈ s.inn n
  rk : ∃ r : Str → Nat, r "" = 0 ∧ ∀ n x, x ∈ s.inn n → r x = r n + 1 ∧ r n ≤ 3
theorem inn_none {s : StandS} {n : Str} (h : lk s.held n = none) : s.inn n = [] := by
  unfold StandS.inn StandS.nest
  rw [h] in
#guard_msgs (pass all) in open Nat
theorem Tre.inn_w {s : StandS} (T : Tre s) {n : Str} (h : (lk s.weighed n).isSome = true) : s.inn n = [] := inn_none (T.dj n h)
/-- a name's names within, however deep, without regard to the weighed ones (their nests are empty) -/
theorem within_succ {s : StandS} (T : Tre s) (f : Nat) (n : Str) : s.within (f + 1) n = (s.inn n).flatMap fun x => x :: s.within f x := by
  show (if (lk s.weighed n).isSome = true then [] else (s.inn n).flatMap fun x => x :: s.within f x) = _
  by_cases h : (lk s.weighed n).isSome = true
  · rw [if_pos h, T.inn_w h]; rfl
  · rw [if_neg h] in
#guard_msgs (pass all) in open Nat
theorem within_stable {s : StandS} (T : Tre s) {r : Str → Nat} (hr : ∀ n x, x ∈ s.inn n → r x = r n + 1 ∧ r n ≤ 3) : ∀ (f g : Nat) (n : Str), 4 ≤ r n + f → 4 ≤ r n + g → s.within f n = s.within g n := by
  have nil : ∀ (g : Nat) (n : Str), s.inn n = [] → s.within g n = [] := fun g n e => by
    cases g with
    | zero => rfl
    | succ g => rw [within_succ T, e]; rfl
  intro f
  induction f with
  | zero =>
    intro g n hf hg
    have e : s.inn n = [] := List.eq_nil_iff_forall_not_mem.mpr fun x hx => by have := (hr n x hx).2; omega
    rw [nil g n e]; rfl
  | succ f ih =>
    intro g n hf hg
    cases g with
    | zero =>
      have e : s.inn n = [] := List.eq_nil_iff_forall_not_mem.mpr fun x hx => by have := (hr n x hx).2; omega
      rw [nil _ n e]; rfl
    | succ g =>
      rw [within_succ T, within_succ T]
      refine flat_congr fun x hx => ?_
      have := (hr n x hx).1
      rw [ih g x (by omega) (by omega)] in
#guard_msgs (pass all) in open Nat
theorem within_at {s : StandS} (T : Tre s) {f : Nat} (hf : 4 ≤ f) (n : Str) : s.within f n = s.within 6 n := by
  obtain ⟨r, _, hr⟩ := T.rk
  exact within_stable T hr f 6 n (by omega) (by omega) in
#guard_msgs (pass all) in open Nat
/-- all names in a nest however deep -/
abbrev StandS.inAll (s : StandS) (n : Str) : List Str := s.within 6 n
theorem inAll_eq {s : StandS} (T : Tre s) (n : Str) : s.inAll n = (s.inn n).flatMap fun x => x :: s.inAll x := by
  show s.within 6 n = _
  rw [within_succ T]
  refine flat_congr fun x hx => ?_
  rw [within_at T (by decide)] in
#guard_msgs (pass all) in open Nat
inductive Anc (s : StandS) (n : Str) : Str → Prop
  | kid {x : Str} : x ∈ s.inn n → Anc s n x
  | deep {x y : Str} : Anc s n x → y ∈ s.inn x → Anc s n y
theorem Anc.up {s : StandS} {n x y : Str} (h : x ∈ s.inn n) (a : Anc s x y) : Anc s n y := by
  induction a with
  | kid hx => exact .deep (.kid h) hx
  | deep _ hy ih => exact .deep ih hy in
#guard_msgs (pass all) in open Nat
theorem within_anc {s : StandS} : ∀ (f : Nat) (n y : Str), y ∈ s.within f n → Anc s n y
  | 0, _, _, h => by cases h
  | f + 1, n, y, h => by
    have h2 : y ∈ (if (lk s.weighed n).isSome = true then [] else (s.inn n).flatMap fun x => x :: s.within f x) := h
    split at h2
    · cases h2
    · obtain ⟨x, hx, hy⟩ := List.mem_flatMap.mp h2
      rcases List.mem_cons.mp hy with rfl | hy
      · exact .kid hx
      · exact Anc.up hx (within_anc f x y hy) in
#guard_msgs (pass all) in open Nat
theorem Anc.rank {s : StandS} {r : Str → Nat} (hr : ∀ n x, x ∈ s.inn n → r x = r n + 1 ∧ r n ≤ 3) {n y : Str} (a : Anc s n y) : r n < r y ∧ r y ≤ 4 := by
  induction a with
  | kid h => have := hr _ _ h; omega
  | deep _ h ih => have := hr _ _ h; omega in
#guard_msgs (pass all) in open Nat
theorem Anc.last {s : StandS} {n y : Str} (a : Anc s n y) : ∃ p, y ∈ s.inn p ∧ (p = n ∨ Anc s n p) := by
  cases a with
  | kid h => exact ⟨n, h, .inl rfl⟩
  | deep a h => exact ⟨_, h, .inr a⟩ in
#guard_msgs (pass all) in open Nat
theorem anc_one {s : StandS} (T : Tre s) {r : Str → Nat} (hr : ∀ n x, x ∈ s.inn n → r x = r n + 1 ∧ r n ≤ 3) {x x' : Str} (e : r x = r x') : ∀ (k : Nat) (y : Str), r y ≤ k → (y = x ∨ Anc s x y) → (y = x' ∨ Anc s x' y) → x = x'
  | 0, y, hk, h1, h2 => by
    rcases h1 with rfl | h1
    · rcases h2 with rfl | h2
      · rfl
      · have := (h2.rank hr).1; omega
    · have := (h1.rank hr).1; omega
  | k + 1, y, hk, h1, h2 => by
    rcases h1 with rfl | h1
    · rcases h2 with rfl | h2
      · rfl
      · have := (h2.rank hr).1; omega
    · rcases h2 with rfl | h2
      · have := (h1.rank hr).1; omega
      · obtain ⟨p, hp, q⟩ := h1.last
        obtain ⟨p', hp', q'⟩ := h2.last
        have := T.one _ _ _ hp hp'
        subst this
        have := hr _ _ hp
        exact anc_one T hr e k p (by omega) q q' in
#guard_msgs (pass all) in open Nat
theorem within_nodup {s : StandS} (T : Tre s) : ∀ (f : Nat) (n : Str), (s.within f n).Nodup := by
  obtain ⟨r, _, hr⟩ := T.rk
  intro f
  induction f with
  | zero => intro n; exact List.nodup_nil
  | succ f ih =>
    intro n
    rw [within_succ T]
    unfold List.Nodup
    rw [List.pairwise_flatMap]
    refine ⟨fun x hx => ?_, ?_⟩
    · refine List.nodup_cons.mpr ⟨fun h => ?_, ih x⟩
      have := ((within_anc f x x h).rank hr).1
      omega
    · refine List.Pairwise.imp_of_mem ?_ (T.nd n)
      intro x y hx hy hne z hz z' hz' ez
      subst ez
      refine hne (anc_one T hr (by rw [(hr _ _ hx).1, (hr _ _ hy).1]) (r z) z (Nat.le_refl _) ?_ ?_)
      · exact (List.mem_cons.mp hz).imp id (within_anc f x z)
      · exact (List.mem_cons.mp hz').imp id (within_anc f y z) in
#guard_msgs (pass all) in open Nat
theorem weight_w {s : StandS} {n : Str} {w : Int} (h : lk s.weighed n = some w) : s.weight n = w := by
  unfold StandS.weight
  rw [h] in
#guard_msgs (pass all) in open Nat
theorem weight_n {s : StandS} {n : Str} (h : lk s.weighed n = none) : s.weight n = ((s.inAll n).filterMap (lk s.weighed)).sum := by
  unfold StandS.weight
  rw [h] in
#guard_msgs (pass all) in open Nat
theorem wt_of {s : StandS} (T : Tre s) {x : Str} {w : Int} (h : lk s.weighed x = some w) : 1 ≤ w ∧ w ≤ 10000 := T.wt (x, w) (lkM h)
theorem sum_fm {s : StandS} (T : Tre s) : ∀ l : List Str, 0 ≤ (l.filterMap (lk s.weighed)).sum ∧ (l.filterMap (lk s.weighed)).sum ≤ 10000 * ((l.filter fun x => (lk s.weighed x).isSome).length : Nat)
  | [] => ⟨Int.le_refl _, Int.le_refl _⟩
  | x :: l => by
    have ih := sum_fm T l
    cases e : lk s.weighed x with
    | none => rw [List.filterMap_cons_none e, List.filter_cons_of_neg (by rw [e]; decide)]; exact ih
    | some w =>
      have := wt_of T e
      rw [List.filterMap_cons_some e, List.filter_cons_of_pos (by rw [e]; rfl), List.sum_cons, List.length_cons]
      push_cast
      omega in
#guard_msgs (pass all) in open Nat
theorem weight_rg {s : StandS} (T : Tre s) (n : Str) : 0 ≤ s.weight n ∧ s.weight n ≤ 410000 := by
  cases e : lk s.weighed n with
  | some w => rw [weight_w e]; have := wt_of T e; omega
  | none =>
    rw [weight_n e]
    have h := sum_fm T (s.inAll n)
    have nd : ((s.inAll n).filter fun x => (lk s.weighed x).isSome).Nodup := (within_nodup T 6 n).filter _
    have hl := nodup_le (m := s.weighed.map (·.1)) nd (fun x hx => by
      obtain ⟨w, hw⟩ := Option.isSome_iff_exists.mp (List.mem_filter.mp hx).2
      exact List.mem_map.mpr ⟨(x, w), lkM hw, rfl⟩)
    rw [List.length_map] at hl
    have := T.cnt
    omega in
#guard_msgs (pass all) in open Nat
theorem weight_sum {s : StandS} (T : Tre s) {n : Str} (h : lk s.weighed n = none) : s.weight n = ((s.inn n).map s.weight).sum := by
  have key : ∀ l : List Str, ((l.flatMap fun x => x :: s.inAll x).filterMap (lk s.weighed)).sum = (l.map s.weight).sum := by
    intro l
    induction l with
    | nil => rfl
    | cons x l ih =>
      rw [List.flatMap_cons, List.filterMap_append, List.sum_append, ih, List.map_cons, List.sum_cons]
      congr 1
      cases e : lk s.weighed x with
      | none => rw [List.filterMap_cons_none e, weight_n e]
      | some w =>
        rw [List.filterMap_cons_some e, weight_w e, inAll_eq T, T.inn_w (by rw [e]; rfl)]
        exact Int.add_zero w
  rw [weight_n h, inAll_eq T, key] in
#guard_msgs (pass all) in open Nat
theorem heavy_sum {s : StandS} (T : Tre s) : ∀ l : List Str, ((l.filter fun x => decide (0 < s.weight x)).map s.weight).sum = (l.map s.weight).sum
  | [] => rfl
  | x :: l => by
    have ih := heavy_sum T l
    have := (weight_rg T x).1
    by_cases h : 0 < s.weight x
    · rw [List.filter_cons_of_pos (by rw [decide_eq_true h]), List.map_cons, List.sum_cons, ih, List.map_cons, List.sum_cons]
    · rw [List.filter_cons_of_neg (by rw [decide_eq_false h]; decide), ih, List.map_cons, List.sum_cons]
      omega in
#guard_msgs (pass all) in open Nat
theorem heavy_wok {s : StandS} (T : Tre s) {n : Str} (h : lk s.weighed n = none) (hp : 0 < s.weight n) : WOk ((s.heavy n).map s.weight) := by
  have hs := heavy_sum T (s.inn n)
  rw [← weight_sum T h] at hs
  have hr := weight_rg T n
  refine ⟨?_, ?_, fun w hw => ?_, ?_⟩
  · cases e : s.heavy n with
    | nil =>
      unfold StandS.heavy at e
      rw [e] at hs
      have : (0 : Int) = s.weight n := hs
      omega
    | cons _ _ => rw [List.map_cons, List.length_cons]; omega
  · rw [List.length_map]
    exact Nat.le_trans (List.length_filter_le _ _) (T.few n)
  · obtain ⟨x, hx, rfl⟩ := List.mem_map.mp hw
    have := of_decide_eq_true (List.mem_filter.mp hx).2
    omega
  · show ((s.heavy n).map s.weight).sum < _
    unfold StandS.heavy
    rw [hs]
    omega in
#guard_msgs (pass all) in open Nat
end DL
namespace DL
open PySem PySem.Spec PyProof.Rows L2
/-- a thing or nest has the name, or it is the outermost one -/
def StandS.has (s : StandS) (x : Str) : Bool := (lk s.weighed x).isSome || (lk s.held x).isSome
/-- so deep at most are the names within -/
def StandS.Low (s : StandS) (k : Nat) (x : Str) : Prop := ∃ r : Str → Nat, (∀ n y, y ∈ s.inn n → r y = r n + 1 ∧ r n ≤ 3) ∧ 4 ≤ r x + k
theorem StandS.Low.kid {s : StandS} {k : Nat} {x y : Str} (h : s.Low k x) (hy : y ∈ s.inn x) : ∃ m, k = m + 1 ∧ s.Low m y := by
  obtain ⟨r, hr, h4⟩ := h
  have := hr x y hy
  obtain ⟨m, rfl⟩ : ∃ m, k = m + 1 := ⟨k - 1, by omega⟩
  exact ⟨m, rfl, r, hr, by omega⟩ in
#guard_msgs (pass all) in open Nat
theorem has_kid {s : StandS} (T : Tre s) {n x : Str} (h : x ∈ s.inn n) : s.has x = true := by
  have := (T.kid n x h).2
  unfold StandS.has
  rcases this with e | e <;> rw [e]
  · rfl
  · exact Bool.or_true _ in
#guard_msgs (pass all) in open Nat
theorem mem_keys {α : Type} {l : List (Str × α)} {x : Str} (h : (lk l x).isSome = true) : x ∈ l.map (·.1) := by
  obtain ⟨v, hv⟩ := Option.isSome_iff_exists.mp h
  exact List.mem_map.mpr ⟨(x, v), lkM hv, rfl⟩ in
#guard_msgs (pass all) in open Nat
end DL
namespace DL
open PySem PySem.Spec PyProof.Rows L2
end DL
namespace DL
open PySem PySem.Spec PyProof.Rows L2
def lnZ (n : NestS) : List Int := n.lines.map fun l => (l.length : Int)
theorem Tre.not_w {s : StandS} (T : Tre s) {x : Str} {n : NestS} (h : lk s.held x = some n) : lk s.weighed x = none := by
  cases e : lk s.weighed x with
  | none => rfl
  | some w => have := T.dj x (by rw [e]; rfl); rw [h] at this; cases this in
#guard_msgs (pass all) in open Nat
end DL
namespace DL
open PySem PySem.Spec PyProof.Rows L2
end DL
namespace DL
open PySem PySem.Spec PyProof.Rows L2
theorem lk_isS {α : Type} {l : List (Str × α)} {x : Str} : (lk l x).isSome = true ↔ x ∈ l.map (·.1) := by
  induction l with
  | nil => simp [lk]
  | cons p l ih =>
    by_cases e : p.1 = x
    · rw [look_pos e, List.map_cons]
      exact ⟨fun _ => by rw [e]; exact List.mem_cons_self, fun _ => rfl⟩
    · rw [look_neg e, ih, List.map_cons, List.mem_cons]
      exact ⟨.inr, fun h => h.resolve_left fun z => e z.symm⟩ in
#guard_msgs (pass all) in open Nat
theorem putD_keysS {α : Type} {l : List (Str × α)} {x : Str} {v : α} : (putD l x v).map (·.1) = if (lk l x).isSome = true then l.map (·.1) else l.map (·.1) ++ [x] := by
  unfold putD
  split
  · rw [List.map_map]; rfl
  · rw [List.map_append]; rfl in
#guard_msgs (pass all) in open Nat
theorem putD_ndS {α : Type} {l : List (Str × α)} {x : Str} {v : α} (h : (l.map (·.1)).Nodup) : ((putD l x v).map (·.1)).Nodup := by
  rw [putD_keysS]
  split
  · exact h
  · rename_i e
    rw [lk_isS] at e
    rw [List.nodup_append]
    exact ⟨h, by simp, fun a ha b hb => by rw [List.mem_singleton.mp hb]; exact fun z => e (z ▸ ha)⟩ in
#guard_msgs (pass all) in open Nat
theorem mem_putD {α : Type} {l : List (Str × α)} {x : Str} {v : α} {q : Str × α} (h : q ∈ putD l x v) : (q.1 = x ∧ q.2 = v) ∨ (q ∈ l ∧ q.1 ≠ x) := by
  unfold putD at h
  split at h
  · obtain ⟨p, hp, rfl⟩ := List.mem_map.mp h
    by_cases e : p.1 = x
    · exact .inl ⟨e, by simp [e]⟩
    · exact .inr ⟨by simp only [if_neg e]; exact hp, e⟩
  · rename_i e
    rcases List.mem_append.mp h with h | h
    · refine .inr ⟨h, fun z => e ?_⟩
      rw [lk_isS]
      exact List.mem_map.mpr ⟨q, h, z⟩
    · rw [List.mem_singleton.mp h]
      exact .inl ⟨rfl, rfl⟩ in
#guard_msgs (pass all) in open Nat
/-- a stand that is settled -/
structure SOk (s : StandS) : Prop where
  T : Tre s
  wd : 1 ≤ s.wd ∧ s.wd ≤ 1000
  hg : 1 ≤ s.hg ∧ s.hg ≤ 1000
  mo : 1 ≤ s.most ∧ s.most.num < 10 ^ 30
  ln : ∀ x n, lk s.held x = some n → 0 < s.weight x → SzOk (lnZ n) (s.heavy x).length
structure BxS (s : StandS) (r : Str → Nat) (nb : NB) : Prop where
  nd : (nb.map (·.1)).Nodup
  all : ∀ q ∈ nb, (0 < s.weight q.1 ∧ s.has q.1 = true) ∧ q.2.Pos ∧ q.2.Cd (1 + 46 * r q.1) ∧ r q.1 ≤ 4
theorem BxS.put {s : StandS} {r : Str → Nat} {nb : NB} (h : BxS s r nb) {x : Str} {b : Bx} (hx : (0 < s.weight x ∧ s.has x = true) ∧ b.Pos ∧ b.Cd (1 + 46 * r x) ∧ r x ≤ 4) : BxS s r (putD nb x b) :=
  ⟨putD_ndS h.nd, fun q hq => by
    rcases mem_putD hq with ⟨e1, e2⟩ | ⟨h1, _⟩
    · rw [e1, e2]; exact hx
    · exact h.all q h1⟩
theorem BxS.more {s : StandS} {r : Str → Nat} : ∀ {g : NB} {nb : NB}, BxS s r nb → (∀ q ∈ g, (0 < s.weight q.1 ∧ s.has q.1 = true) ∧ q.2.Pos ∧ q.2.Cd (1 + 46 * r q.1) ∧ r q.1 ≤ 4) → BxS s r (g.foldl (fun f q => putD f q.1 q.2) nb)
  | [], _, h, _ => h
  | q :: g, nb, h, hg => by
    rw [List.foldl_cons]
    exact BxS.more (g := g) (nb := putD nb q.1 q.2) (BxS.put h (hg q (List.mem_cons_self ..))) fun q hq => hg q (List.mem_cons_of_mem _ hq) in
#guard_msgs (pass all) in open Nat
theorem BxS.len {s : StandS} {r : Str → Nat} {nb : NB} (T : Tre s) (h : BxS s r nb) : nb.length ≤ 41 := by
  have := nodup_le (m := s.weighed.map (·.1) ++ s.held.map (·.1)) h.nd fun x hx => by
    obtain ⟨q, hq, rfl⟩ := List.mem_map.mp hx
    have := (h.all q hq).1.2
    unfold StandS.has at this
    rcases Bool.or_eq_true_iff.mp this with e | e
    · exact List.mem_append_left _ (mem_keys e)
    · exact List.mem_append_right _ (mem_keys e)
  rw [List.length_append, List.length_map, List.length_map, List.length_map] at this
  exact Nat.le_trans this T.cnt in
#guard_msgs (pass all) in open Nat
theorem boxesIn_eq {s : StandS} {x : Str} {n : NestS} (h : lk s.held x = some n) (b : Bx) : s.boxesIn x b = (s.heavy x).zip (laidB b ((s.heavy x).map s.weight) (lnZ n) n.dn) := by
  unfold StandS.boxesIn StandS.nest
  rw [h]
  rfl in
#guard_msgs (pass all) in open Nat
theorem BxS.kids {s : StandS} {r : Str → Nat} (K : SOk s) (hr : ∀ n y, y ∈ s.inn n → r y = r n + 1 ∧ r n ≤ 3) {x : Str} {n : NestS} {b : Bx} (hx : lk s.held x = some n) (hw : 0 < s.weight x) (hp : b.Pos) (hc : b.Cd (1 + 46 * r x)) :
    ∀ q ∈ s.boxesIn x b, (0 < s.weight q.1 ∧ s.has q.1 = true) ∧ q.2.Pos ∧ q.2.Cd (1 + 46 * r q.1) ∧ r q.1 ≤ 4 := by
  intro q hq
  rw [boxesIn_eq hx] at hq
  have h1 := (List.of_mem_zip hq).1
  have h2 := (List.of_mem_zip hq).2
  have hw0 := K.T.not_w hx
  have wk := heavy_wok K.T hw0 hw
  have hz : SzOk (lnZ n) ((s.heavy x).map s.weight).length := by rw [List.length_map]; exact K.ln x n hx hw
  have hi := (List.mem_filter.mp h1).1
  have hk := hr x q.1 hi
  refine ⟨⟨of_decide_eq_true (List.mem_filter.mp h1).2, has_kid K.T hi⟩, laid_pos hp wk hz _ h2, ?_, by omega⟩
  have := laid_cd wk hz n.dn hc h2
  rw [hk.1]
  rw [show 1 + 46 * (r x + 1) = 1 + 46 * r x + 46 by omega]
  exact this in
#guard_msgs (pass all) in open Nat
/-- the boxes, nest by nest -/
def StandS.boxStep (s : StandS) (f : NB) (n : Str) : NB := match lk f n with
  | some b => (s.boxesIn n b).foldl (fun f q => putD f q.1 q.2) f
  | none => f
theorem BxS.step {s : StandS} {r : Str → Nat} (K : SOk s) (hr : ∀ n y, y ∈ s.inn n → r y = r n + 1 ∧ r n ≤ 3) {nb : NB} (h : BxS s r nb) {x : Str} (hx : ∃ n, lk s.held x = some n) : BxS s r (s.boxStep nb x) := by
  unfold StandS.boxStep
  cases e : lk nb x with
  | none => exact h
  | some b =>
    obtain ⟨n, hx⟩ := hx
    have q := h.all (x, b) (lkM e)
    exact h.more (BxS.kids K hr hx q.1.1 q.2.1 q.2.2.1) in
#guard_msgs (pass all) in open Nat
end DL
namespace DL
open PySem PySem.Spec PyProof.Rows L2
end DL
namespace DL
open PySem PySem.Spec PyProof.Rows L2
end DL
namespace DL
open PySem PySem.W PyProof.Rows L2
end DL
namespace DL
open PySem PySem.Spec PyProof.Rows L2
section
variable {X : Cx} {W : WX} {K : PySem.W.Frag}
/-- dict(zip(names, xs)) -/
def wDicZ (w : WA) : DL.WE := fun ρ cs P Z => w ρ cs (fun ds cs1 => ∃ (ns : List Str) (es : List D), ds = [.lst (ns.map D.str), .lst es] ∧ ∀ p, p ∉ adr cs1 → P (.opq (.ref p)) ((p, .dic (mergeD [] (dicZ ns es))) :: cs1)) Z
theorem r_dicZ {w : WA} {ρ : DL.Env} {cs : Cs} {P : DP} {Z : XZ} (h : w ρ cs (fun ds cs1 => ∃ (ns : List Str) (es : List D), ds = [.lst (ns.map D.str), .lst es] ∧ ∀ p, p ∉ adr cs1 → P (.opq (.ref p)) ((p, .dic (mergeD [] (dicZ ns es))) :: cs1)) Z) : wDicZ w ρ cs P Z := h
end
end DL
namespace DL
open PySem PySem.Spec PyProof.Rows L2
section
variable {X : Cx} {W : WX} {K : PySem.W.Frag} {a e : Expr} {es : List Expr} {wa : DL.WE} {w : WA} {name : Str} {apos cpos : Pos} {id : String} {r : V → List V → Hp → VK → Prop} {t : TA} {to : TE}
def oIxL : DMt := fun x ds cs P => ∃ (ns : List Str) (y : Str), x = .lst (ns.map D.str) ∧ ds = [.str y] ∧ y ∈ ns ∧ P (.int (ns.idxOf y : Nat)) cs
theorem r_ixLS {ns : List Str} {y : Str} {cs : Cs} {P : DP} (hy : y ∈ ns) (h : P (.int (ns.idxOf y : Nat)) cs) : oIxL (.lst (ns.map D.str)) [.str y] cs P := ⟨ns, y, rfl, rfl, hy, h⟩
end
end DL
namespace DL
open PySem PySem.Spec PyProof.Rows L2
end DL
namespace DL
open PySem PySem.Spec PyProof.Rows L2 LamX
end DL
namespace Lw
open PySem PySem.Spec PyProof.Rows L2 DL
local macro_rules | `(tactic| walk_at "st") => `(tactic| (first
  | with_reducible refine r_kT ?_ | with_reducible refine r_kF ?_ | with_reducible refine r_nT ?_ | with_reducible refine r_nF ?_ | with_reducible refine r_nx ?_ | with_reducible refine r_rt ?_ | with_reducible refine r_bk ?_ | with_reducible refine r_cn ?_ | with_reducible refine r_gN ?_ | with_reducible refine r_gCn ?_ | with_reducible refine r_gNl ?_ | ((with_reducible apply r_gT); (exact rfl)) | with_reducible refine r_sif ?_ | with_reducible refine r_set ?_ | with_reducible refine r_asg ?_ | with_reducible refine r_ret ?_ | with_reducible refine r_op ?_ | with_reducible refine r_test ?_
  | ((with_reducible apply r_var); (exact rfl)) | with_reducible refine r_c ?_ | with_reducible refine r_cons ?_ | with_reducible refine r_nil ?_ | with_reducible refine r_call ?_ | with_reducible refine r_cb ?_
  | with_reducible refine r_tup ?_ | with_reducible refine r_lst ?_ | with_reducible refine r_par ?_ | with_reducible refine r_setix ?_ | with_reducible refine r_and ?_ | with_reducible refine r_or ?_ | with_reducible refine r_not ?_
  | with_reducible refine r_if ?_ | with_reducible refine r_andV ?_ | with_reducible refine r_orV ?_ | with_reducible refine r_notV ?_ | with_reducible refine r_drop ?_ | with_reducible refine r_next ?_ | with_reducible refine r_un ?_ | with_reducible refine r_for ?_
  | with_reducible refine r_mtL ?_ | with_reducible refine r_mtL0 ?_ | with_reducible refine r_seqI ?_ | with_reducible refine r_tupI ?_ | with_reducible refine r_rg1 ?_ | with_reducible refine r_retN ?_ | with_reducible refine r_brk ?_ | with_reducible refine r_ct ?_
  | with_reducible refine r_ixR0 ?_ | with_reducible refine r_ixR1 ?_ | with_reducible refine r_add ?_ | with_reducible refine r_sub ?_ | with_reducible refine r_lt ?_ | with_reducible refine r_le ?_ | with_reducible refine r_gt ?_ | with_reducible refine r_ge ?_ | with_reducible refine r_neg ?_
  | with_reducible refine r_eqI ?_ | with_reducible refine r_neI ?_ | with_reducible refine r_eqR ?_ | with_reducible refine r_neR ?_ | with_reducible refine r_eqBs ?_ | with_reducible refine r_neBs ?_ | with_reducible refine r_isN ?_ | with_reducible refine r_notN ?_ | with_reducible refine r_isBs ?_ | with_reducible refine r_notBs ?_ | with_reducible refine r_isB ?_ | with_reducible refine r_notB ?_ | with_reducible refine r_eqB ?_ | with_reducible refine r_neB ?_ | with_reducible refine r_eqS ?_ | with_reducible refine r_neS ?_
  | ((with_reducible apply r_ixT); (exact rfl)) | ((with_reducible apply r_ixL); (exact rfl))
  | ((with_reducible apply r_ixM); (first | assumption | exact look_put (by assumption) | exact look_put (look_put (by assumption)) | exact look_put (look_put (look_put (by assumption))) | exact look_put (look_put (look_put (look_put (by assumption))))); (exact rfl))
  | ((with_reducible apply r_setL); (first | assumption | exact look_put (by assumption) | exact look_put (look_put (by assumption)) | exact look_put (look_put (look_put (by assumption))) | exact look_put (look_put (look_put (look_put (by assumption))))); (exact rfl))
  | ((with_reducible apply r_mul); (first | exact mulOk_r (by decide) | exact mulOk_l (by decide) | assumption | exact mulOk_r (by omega) | exact mulOk_l (by omega)))
  | ((with_reducible apply r_mod); (first | assumption | decide)) | ((with_reducible apply r_div); (first | assumption | exact ⟨by decide, by decide⟩)) | ((with_reducible apply r_pow); (exact ⟨by decide, by decide, by decide⟩))
  | ((with_reducible apply r_count); (exact rfl); (exact rfl)) | with_reducible refine r_abs ?_ | ((with_reducible apply r_isiT); (exact rfl)) | ((with_reducible apply r_isiF); (exact rfl)) | ((with_reducible apply r_isiTT); (exact rfl); (exact rfl); (exact rfl)) | ((with_reducible apply r_isiTF); (exact rfl); (exact rfl); (exact rfl)) | with_reducible refine r_tupleL ?_ | with_reducible refine r_tupleT ?_ | with_reducible refine r_sl ?_ | with_reducible refine r_revL ?_ | with_reducible refine r_revLL ?_ | with_reducible refine r_noPart ?_ | with_reducible refine DL.r_part ?_ | with_reducible refine r_slL ?_ | with_reducible refine r_slT ?_ | with_reducible refine r_yes ?_ | with_reducible refine r_comp ?_ | with_reducible refine r_zipL ?_ | with_reducible refine r_lenL ?_ | with_reducible refine r_lenT ?_ | with_reducible refine r_listL ?_ | with_reducible refine r_listT ?_ | with_reducible refine r_isL ?_
  | with_reducible refine r_ixB0 ?_ | with_reducible refine r_ixB1 ?_ | with_reducible refine r_ixB2 ?_ | with_reducible refine r_ixB3 ?_ | with_reducible refine r_eqDn ?_ | with_reducible refine r_eqAc ?_ | with_reducible refine r_frz ?_ | with_reducible refine r_frzH ?_ | (with_reducible refine ⟨_, _, rfl, look_hd, ?_⟩; rw [del_hd]) | with_reducible refine r_isMH ?_ | with_reducible refine r_lstM ?_ | with_reducible refine r_chain ?_ | with_reducible refine r_par3 ?_ | with_reducible refine r_callK ?_ | with_reducible refine r_anyI ?_ | with_reducible refine r_callD ?_
  | ((with_reducible apply r_aug); (exact rfl))))
local macro_rules | `(tactic| walk_at "g1") => `(tactic| repeat (walk_at "st"))
local macro_rules | `(tactic| walk_at "go") => `(tactic| repeat (first | with_reducible refine r_seq ?_ | walk_at "st"))
local macro_rules | `(tactic| walk_at "s2") => `(tactic| (first
  | with_reducible refine r_compM_ ?_ | with_reducible refine r_comp2 ?_ | with_reducible refine r_zip ?_ | with_reducible refine r_zipM ?_ | with_reducible refine r_lenH ?_ | with_reducible refine r_lenXL ?_ | with_reducible refine r_tupH ?_ | with_reducible refine r_tupXL ?_ | with_reducible refine r_tupXT ?_ | with_reducible refine r_listXH ?_ | with_reducible refine r_listXL ?_ | with_reducible refine r_listXT ?_ | with_reducible refine r_listML ?_ | with_reducible refine r_listMT ?_ | with_reducible refine r_listDD ?_ | with_reducible refine r_listDM ?_ | with_reducible refine r_dictDD ?_ | with_reducible refine r_min2 ?_ | with_reducible refine r_max2 ?_ | with_reducible refine r_sumL ?_ | with_reducible refine r_sumT ?_ | with_reducible refine r_clearH ?_ | with_reducible refine r_gStar ?_ | with_reducible refine r_gone ?_ | with_reducible refine r_goneH ?_ | with_reducible refine r_ix0 ?_ | with_reducible refine r_ix0T ?_ | with_reducible refine r_slAL ?_ | with_reducible refine r_slAT ?_ | with_reducible refine r_flatB ?_ | with_reducible refine r_dn1 ?_ | with_reducible refine r_ac1 ?_ | with_reducible refine r_dn2 ?_ | with_reducible refine r_ac2 ?_ | with_reducible refine r_dn3 ?_ | with_reducible refine r_ac3 ?_ | with_reducible refine r_dn4 ?_ | with_reducible refine r_ac4 ?_ | with_reducible refine r_dn5 ?_ | with_reducible refine r_ac5 ?_ | with_reducible refine r_app11 ?_ | with_reducible refine r_app12 ?_ | with_reducible refine r_app21 ?_ | with_reducible refine r_app22 ?_ | with_reducible refine r_app31 ?_ | with_reducible refine r_app32 ?_ | with_reducible refine r_app41 ?_ | with_reducible refine r_app42 ?_ | with_reducible refine r_app51 ?_ | with_reducible refine r_app52 ?_
  | ((with_reducible apply r_lenW); (assumption)) | ((with_reducible apply r_sumW); (assumption)) | ((with_reducible apply r_catLL); (walk_at "in")) | ((with_reducible apply r_catML); (walk_at "in")) | ((with_reducible apply r_catT); (walk_at "in")) | ((with_reducible apply r_catB); (walk_at "in")) | ((with_reducible apply r_appendH); (walk_at "in"))))
local macro_rules | `(tactic| walk_at "s0") => `(tactic| (first
  | with_reducible refine q_sif ?_ | with_reducible refine q_set ?_ | with_reducible refine q_asg ?_ | with_reducible refine q_ret ?_ | with_reducible refine q_drop ?_ | with_reducible refine q_next ?_ | with_reducible refine q_par ?_ | with_reducible refine q_for ?_ | with_reducible refine q_par3 ?_ | with_reducible refine q_setix ?_ | with_reducible refine q_brk ?_ | with_reducible refine q_ct ?_ | with_reducible refine q_retN ?_ | ((with_reducible apply q_aug); (exact rfl))))
local macro_rules | `(tactic| walk_at "cl") => `(tactic| fail)
local macro_rules | `(tactic| walk_at "n0") => `(tactic| (first | ((with_reducible refine g_e ?_); (first | with_reducible refine r_op ?_ | ((with_reducible apply r_var); (exact rfl)) | with_reducible refine r_c ?_ | with_reducible refine r_call ?_ | with_reducible refine r_cb ?_ | with_reducible refine r_tup ?_ | with_reducible refine r_lst ?_ | with_reducible refine r_if ?_ | with_reducible refine r_andV ?_ | with_reducible refine r_orV ?_ | with_reducible refine r_notV ?_ | with_reducible refine r_un ?_ | with_reducible refine r_mtL ?_ | with_reducible refine r_mtL0 ?_ | with_reducible refine r_sl ?_ | with_reducible refine r_revL ?_ | with_reducible refine r_revLL ?_ | with_reducible refine r_comp ?_ | with_reducible refine r_frz ?_ | with_reducible refine r_frzD ?_ | with_reducible refine r_lstM ?_ | with_reducible refine r_chain ?_ | with_reducible refine r_callK ?_ | with_reducible refine r_callD ?_ | with_reducible refine r_compM_ ?_ | with_reducible refine r_comp2 ?_ | with_reducible refine r_gone ?_ | with_reducible refine r_newK ?_ | with_reducible refine r_newT ?_ | with_reducible refine r_oneK ?_ | with_reducible refine r_lockD ?_ | with_reducible refine r_dcK ?_ | with_reducible refine r_dcT ?_ | with_reducible refine r_dcKT ?_ | with_reducible refine r_lstR ?_ | with_reducible refine r_lstZ ?_ | with_reducible refine r_dicZ ?_ | with_reducible refine r_lstRM ?_ | with_reducible refine r_mtD ?_ | with_reducible refine r_get2 ?_ | with_reducible refine r_lenSet ?_ | with_reducible refine r_lenSetX ?_ | with_reducible refine r_sortSetX ?_ | with_reducible refine r_lrep ?_ | with_reducible refine r_lrepM ?_ | with_reducible refine r_slrep ?_ | with_reducible refine r_callG ?_ | ((with_reducible apply r_lam); (walk_at "tb")) | with_reducible refine r_ask ?_ | with_reducible refine r_why ?_ | with_reducible refine r_lost ?_ | with_reducible refine r_m1 ?_ | with_reducible refine r_fmt ?_ | with_reducible refine r_joined ?_)) | ((with_reducible refine g_a ?_); (first | with_reducible refine r_cons ?_ | with_reducible refine r_nil ?_ | with_reducible refine r_seqI ?_ | with_reducible refine r_tupI ?_ | with_reducible refine r_rg1 ?_ | with_reducible refine r_zipL ?_ | with_reducible refine r_anyI ?_ | with_reducible refine r_zip ?_ | with_reducible refine r_zipM ?_ | with_reducible refine r_keysI ?_ | with_reducible refine r_itT ?_ | with_reducible refine r_strI ?_ | with_reducible refine r_orT ?_ | with_reducible refine r_itK ?_ | with_reducible refine r_rg2 ?_ | with_reducible refine r_rev1 ?_ | with_reducible refine r_enum ?_ | with_reducible refine r_rg3 ?_)) | ((with_reducible refine g_2 ?_); (first | with_reducible refine r_ixR0 ?_ | with_reducible refine r_ixR1 ?_ | with_reducible refine r_add ?_ | with_reducible refine r_sub ?_ | with_reducible refine r_lt ?_ | with_reducible refine r_le ?_ | with_reducible refine r_gt ?_ | with_reducible refine r_ge ?_ | with_reducible refine r_eqI ?_ | with_reducible refine r_neI ?_ | with_reducible refine r_eqR ?_ | with_reducible refine r_neR ?_ | with_reducible refine r_eqSs ?_ | with_reducible refine r_neSs ?_ | with_reducible refine r_eqBs ?_ | with_reducible refine r_neBs ?_ | with_reducible refine r_isN ?_ | with_reducible refine r_notN ?_ | with_reducible refine r_isBs ?_ | with_reducible refine r_notBs ?_ | with_reducible refine r_isB ?_ | with_reducible refine r_notB ?_ | with_reducible refine r_eqB ?_ | with_reducible refine r_neB ?_ | with_reducible refine r_eqS ?_ | with_reducible refine r_neS ?_ | ((with_reducible apply r_ixT); (exact rfl)) | ((with_reducible apply r_ixL); (exact rfl)) | ((with_reducible apply r_ixM); (first | assumption | exact look_put (by assumption) | exact look_put (look_put (by assumption)) | exact look_put (look_put (look_put (by assumption))) | exact look_put (look_put (look_put (look_put (by assumption))))); (exact rfl)) | ((with_reducible apply r_mul); (first | exact mulOk_r (by decide) | exact mulOk_l (by decide) | assumption | exact mulOk_r (by omega) | exact mulOk_l (by omega))) | ((with_reducible apply r_mod); (first | assumption | decide)) | ((with_reducible apply r_div); (first | assumption | exact ⟨by decide, by decide⟩)) | ((with_reducible apply r_pow); (exact ⟨by decide, by decide, by decide⟩)) | with_reducible refine r_ixB0 ?_ | with_reducible refine r_ixB1 ?_ | with_reducible refine r_ixB2 ?_ | with_reducible refine r_ixB3 ?_ | with_reducible refine r_eqDn ?_ | with_reducible refine r_eqAc ?_ | with_reducible refine r_ix0 ?_ | with_reducible refine r_ix0T ?_ | ((with_reducible apply r_catLL); (walk_at "in")) | ((with_reducible apply r_catML); (walk_at "in")) | ((with_reducible apply r_catT); (walk_at "in")) | ((with_reducible apply r_catB); (walk_at "in")) | ((with_reducible apply r_catS); (walk_at "in")) | with_reducible refine r_inS ?_ | ((with_reducible apply r_getSh); (walk_at "in"); (walk_at "in"); (walk_at "in")) | ((with_reducible apply r_getKI); (first | assumption | (walk_at "lk"))) | ((with_reducible apply r_getKS); (first | assumption | (walk_at "lk"))) | ((with_reducible apply r_getT2); (first | assumption | (walk_at "lk"))) | ((with_reducible apply r_getMI); (first | exact look_hd | assumption); (first | assumption | (walk_at "lk"))) | ((with_reducible apply r_getMS); (first | exact look_hd | assumption); (first | assumption | (walk_at "lk"))) | ((with_reducible apply r_getMT2); (first | exact look_hd | assumption); (first | assumption | (walk_at "lk"))) | with_reducible refine r_inKI ?_ | with_reducible refine r_inKS ?_ | with_reducible refine r_inT2 ?_ | with_reducible refine r_notKI ?_ | with_reducible refine r_notKS ?_ | with_reducible refine r_inLI ?_ | with_reducible refine r_inTI ?_ | with_reducible refine r_niLI ?_ | with_reducible refine r_niTI ?_ | with_reducible refine r_inLS ?_ | with_reducible refine r_niLS ?_ | ((with_reducible apply r_inMI); (first | exact look_hd | assumption)) | ((with_reducible apply r_inMS); (first | exact look_hd | assumption)) | ((with_reducible apply r_notMI); (first | exact look_hd | assumption)) | ((with_reducible apply r_notMS); (first | exact look_hd | assumption)))) | ((with_reducible refine g_c ?_); (first | with_unfolding_none refine r_kT ?_ | with_unfolding_none refine r_kF ?_ | with_unfolding_none refine r_nT ?_ | with_unfolding_none refine r_nF ?_ | with_reducible refine r_isL ?_ | with_reducible refine r_isMH ?_ | ((with_reducible apply r_isDM); (first | exact look_hd | assumption)) | with_reducible refine r_ddK ?_ | ((with_reducible apply r_ddM); (first | exact look_hd | assumption)) | with_reducible refine r_flatB ?_)) | ((with_reducible refine g_t ?_); (first | with_reducible refine r_test ?_ | with_reducible refine r_and ?_ | with_reducible refine r_or ?_ | with_reducible refine r_not ?_ | with_reducible refine r_yes ?_)) | ((with_reducible refine g_p ?_); (first | with_reducible refine r_dn1 ?_ | with_reducible refine r_ac1 ?_ | with_reducible refine r_dn2 ?_ | with_reducible refine r_ac2 ?_ | with_reducible refine r_dn3 ?_ | with_reducible refine r_ac3 ?_ | with_reducible refine r_dn4 ?_ | with_reducible refine r_ac4 ?_ | with_reducible refine r_dn5 ?_ | with_reducible refine r_ac5 ?_ | with_reducible refine r_app11 ?_ | with_reducible refine r_app12 ?_ | with_reducible refine r_app21 ?_ | with_reducible refine r_app22 ?_ | with_reducible refine r_app31 ?_ | with_reducible refine r_app32 ?_ | with_reducible refine r_app41 ?_ | with_reducible refine r_app42 ?_ | with_reducible refine r_app51 ?_ | with_reducible refine r_app52 ?_ | walk_at "cl")) | ((with_reducible refine g_n ?_); (first | with_reducible refine r_abs ?_ | ((with_reducible apply r_isiT); (exact rfl)) | ((with_reducible apply r_isiF); (exact rfl)) | ((with_reducible apply r_isiTT); (exact rfl); (exact rfl); (exact rfl)) | ((with_reducible apply r_isiTF); (exact rfl); (exact rfl); (exact rfl)) | with_reducible refine r_tupleL ?_ | with_reducible refine r_tupleT ?_ | with_reducible refine r_lenL ?_ | with_reducible refine r_lenT ?_ | with_reducible refine r_listL ?_ | with_reducible refine r_listT ?_ | with_reducible refine r_listB ?_ | with_reducible refine r_lenB ?_ | with_reducible refine r_lenH ?_ | with_reducible refine r_lenXL ?_ | with_reducible refine r_tupH ?_ | with_reducible refine r_tupXL ?_ | with_reducible refine r_tupXT ?_ | with_reducible refine r_listXH ?_ | with_reducible refine r_listXL ?_ | with_reducible refine r_listXT ?_ | with_reducible refine r_listML ?_ | with_reducible refine r_listMT ?_ | with_reducible refine r_listDD ?_ | with_reducible refine r_listDM ?_ | with_reducible refine r_dictDD ?_ | with_reducible refine r_min2 ?_ | with_reducible refine r_max2 ?_ | with_reducible refine r_sumL ?_ | with_reducible refine r_sumT ?_ | ((with_reducible apply r_lenW); (assumption)) | ((with_reducible apply r_sumW); (assumption)))) | ((with_reducible refine g_g ?_); (first | with_reducible refine r_gN ?_ | ((with_reducible apply r_gT); (exact rfl)) | ((with_reducible apply r_gL); (exact rfl)) | with_reducible refine r_gStar ?_)) | ((with_reducible refine g_gs ?_); (first | with_reducible refine r_gCn ?_ | with_reducible refine r_gNl ?_)) | ((with_reducible refine g_m ?_); (first | ((with_reducible apply r_count); (exact rfl); (exact rfl)) | ((with_reducible apply r_ixLS); (assumption)) | with_reducible refine r_clearH ?_ | ((with_reducible apply r_appendH); (walk_at "in")) | ((with_reducible apply r_updH); (walk_at "in")))) | ((with_reducible refine g_o ?_); (first | with_reducible refine r_noPart ?_ | with_reducible refine DL.r_part ?_)) | ((with_reducible refine g_w ?_); (first | ((with_reducible apply r_setL); (first | assumption | exact look_put (by assumption) | exact look_put (look_put (by assumption)) | exact look_put (look_put (look_put (by assumption))) | exact look_put (look_put (look_put (look_put (by assumption))))); (exact rfl)) | ((with_reducible apply r_setKI); (walk_at "in")) | ((with_reducible apply r_setKS); (walk_at "in")))) | with_reducible refine r_isStr ?_ | with_reducible refine r_jsC ?_ | with_reducible refine r_jsN ?_ | with_reducible refine r_neg ?_ | with_reducible refine r_slL ?_ | with_reducible refine r_slT ?_ | with_reducible refine r_slB ?_ | with_reducible refine r_frzH ?_ | (with_reducible refine ⟨_, _, rfl, look_hd, ?_⟩; rw [del_hd]) | with_reducible refine r_goneH ?_ | with_reducible refine r_slAL ?_ | with_reducible refine r_slAT ?_ | ((with_reducible apply r_setT2); (walk_at "in")) | (with_reducible refine ⟨_, rfl, look_hd, ?_⟩; rw [put_hd]) | (with_reducible refine ⟨_, rfl, Or.inl ⟨_, look_hd, ?_⟩⟩; rw [del_hd]) | (with_reducible refine ⟨_, rfl, Or.inr ⟨_, look_hd, ?_⟩⟩; rw [del_hd]) | with_reducible refine r_goneEx ?_ | with_reducible refine r_gvKI ?_ | with_reducible refine r_gvKS ?_ | ((with_reducible apply r_gvMI); (first | exact look_hd | assumption)) | ((with_reducible apply r_gvMS); (first | exact look_hd | assumption)) | with_reducible refine r_ks2 ?_ | with_reducible refine r_kkI ?_ | with_reducible refine r_kkS ?_ | ((with_reducible apply r_pk2); (exact rfl); (exact rfl)) | ((with_reducible apply r_pk1); (exact rfl)) | ((with_reducible apply r_lrepE); (walk_at "in"); (walk_at "in")) | refine And.intro (show _ ∈ exL by decide) ⟨_, rfl, ?_⟩ | walk_at "ob"))
local macro_rules | `(tactic| walk_at "nS") => `(tactic| ((with_reducible refine g_s ?_); (first | with_reducible refine r_raise ?_ | with_reducible refine r_raise1 ?_ | with_reducible refine r_raiseD ?_ | with_reducible refine q_sif ?_ | with_reducible refine q_set ?_ | with_reducible refine q_asg ?_ | with_reducible refine q_ret ?_ | with_reducible refine q_drop ?_ | with_reducible refine q_next ?_ | with_reducible refine q_par ?_ | with_reducible refine q_for ?_ | with_reducible refine q_par3 ?_ | with_reducible refine q_setix ?_ | with_reducible refine q_brk ?_ | with_reducible refine q_ct ?_ | with_reducible refine q_retN ?_ | with_reducible refine q_setDK ?_ | with_reducible refine q_setDT ?_ | with_reducible refine q_goneA ?_ | with_reducible refine q_frzA ?_ | with_reducible refine q_lockA ?_ | with_reducible refine q_setSl ?_ | ((with_reducible apply q_aug); (exact rfl)))))
local macro_rules | `(tactic| walk_at "nQ") => `(tactic| ((with_reducible refine g_s ?_); (first | with_reducible refine r_raise ?_ | with_reducible refine r_raise1 ?_ | with_reducible refine r_raiseD ?_ | with_reducible refine r_seq ?_ | with_reducible refine q_sif ?_ | with_reducible refine q_set ?_ | with_reducible refine q_asg ?_ | with_reducible refine q_ret ?_ | with_reducible refine q_drop ?_ | with_reducible refine q_next ?_ | with_reducible refine q_par ?_ | with_reducible refine q_for ?_ | with_reducible refine q_par3 ?_ | with_reducible refine q_setix ?_ | with_reducible refine q_brk ?_ | with_reducible refine q_ct ?_ | with_reducible refine q_retN ?_ | with_reducible refine q_setDK ?_ | with_reducible refine q_setDT ?_ | with_reducible refine q_goneA ?_ | with_reducible refine q_frzA ?_ | with_reducible refine q_lockA ?_ | with_reducible refine q_setSl ?_ | ((with_reducible apply q_aug); (exact rfl)))))
local macro_rules | `(tactic| walk_at "lk") => `(tactic| fail)
local macro_rules | `(tactic| walk_at "ge") => `(tactic| first | assumption | exact Rat.le_refl)
local macro_rules | `(tactic| walk_at "G1") => `(tactic| repeat (first | walk_at "nS" | walk_at "n0"))
local macro_rules | `(tactic| walk_at "GO") => `(tactic| repeat (first | walk_at "nQ" | walk_at "n0"))
local macro_rules | `(tactic| walk_at "nz") => `(tactic| first | assumption | (refine Rat.ne_of_gt ?_; walk_at "pz"))
local macro_rules | `(tactic| walk_at "pz") => `(tactic| first | assumption | (refine Bx.Pos.w ?_; assumption) | (refine Bx.Pos.h ?_; assumption) | (apply Rat.mul_pos <;> walk_at "pz") | (apply divInt_pos' <;> omega) | (apply Rat.div_pos <;> walk_at "pz"))
local macro_rules | `(tactic| walk_at "sy") => `(tactic| first | assumption | ((apply Bx.Sz.l); assumption) | ((apply Bx.Sz.t); assumption) | ((apply Bx.Sz.w); assumption) | ((apply Bx.Sz.h); assumption) | (apply Sz.absR; walk_at "sy") | (apply Sz.add <;> walk_at "sy") | (apply Sz.sub <;> walk_at "sy") | (apply Sz.mul <;> walk_at "sy") | ((apply Sz.shape); (walk_at "sy"); (walk_at "sy"); (walk_at "pz"); (walk_at "pz")) | ((apply Sz.div); (walk_at "sy"); (walk_at "sy"); (walk_at "nz")) | (apply Sz.frac <;> omega))
local macro_rules | `(tactic| walk_at "sz") => `(tactic| first | assumption | ((apply Sz.mono); (walk_at "sy"); (decide)) | ((apply Bx.Sz.mono); (assumption); (decide)) | exact ⟨by decide, by decide⟩)
local macro_rules | `(tactic| walk_at "bg") => `(tactic| first | assumption | exact BagStep.bag (by assumption) | ((refine BagIn.over ?_ ?_); (assumption); (walk_at "bg")))
local macro_rules | `(tactic| walk_at "in") => `(tactic| first | with_reducible assumption | omega | decide | (simp only [List.length_map, List.length_cons, List.length_nil, List.length_append, List.length_take, List.length_drop]; omega))
local macro_rules | `(tactic| walk_at "wd") => `(tactic| first | assumption | exact WD.l _ | exact WD.t _)
local macro_rules | `(tactic| walk_at "p9") => `(tactic| first | assumption | exact szlt (by omega) (by omega))
local macro_rules | `(tactic| walk_at "pb") => `(tactic| first | assumption)
local macro_rules | `(tactic| walk_at "zs") => `(tactic| first | assumption)
local macro_rules | `(tactic| walk_at "pl") => `(tactic| first | assumption | rfl | ((apply plD_Bxs); (walk_at "in")) | ((apply plD_ints); (walk_at "in")) | ((apply plD_intsT); (walk_at "in")) | exact plD_dR _)
local macro_rules | `(tactic| walk_at "tb") => `(tactic| first | with_reducible assumption | (apply tb_step; assumption; assumption; walk_at "tb") | (apply tb_cons; assumption; walk_at "tb") | (apply tb_put; assumption; walk_at "tb"))
local macro_rules | `(tactic| walk_at "nm") => `(tactic| first | assumption | (refine List.mem_map.mpr ⟨(_, _), ?_, rfl⟩; assumption))
local macro_rules | `(tactic| walk_at "wk") => `(tactic| first | assumption | exact WtOk.wok (by assumption))
local macro_rules | `(tactic| walk_at "ob") => `(tactic| fail)
local macro_rules | `(tactic| walk_at "ob") => `(tactic| (first
  | with_reducible refine r_fld ?_ | with_reducible refine r_facing ?_ | with_reducible refine r_inner ?_ | with_reducible refine r_lines ?_ | with_reducible refine r_measures ?_ | with_reducible refine r_most ?_ | with_reducible refine r_weighed ?_ | with_reducible refine r_held ?_ | ((with_reducible apply r_now); (assumption)) | ((with_reducible apply r_past); (assumption)) | ((with_reducible apply r_later); (assumption)) | ((with_reducible apply r_shown); (assumption))
  | with_reducible refine r_LS ?_ | with_reducible refine r_LB ?_ | with_reducible refine r_LT ?_ | with_reducible refine r_LN ?_ | with_reducible refine r_LN1 ?_ | with_reducible refine r_lenDd ?_ | with_reducible refine r_disp ?_ | with_reducible refine r_dispH ?_ | with_reducible refine r_meth ?_ | ((with_reducible apply r_mStand); (exact rfl)) | ((with_reducible apply r_mNest); (exact rfl)) | ((with_reducible apply r_mHouse); (assumption); (exact rfl)) | ((with_reducible apply r_mHouseA); (walk_at "ha"); (exact fun _ _ _ _ => rfl)) | with_reducible refine r_mkF ?_ | with_reducible refine r_mkNest ?_ | with_reducible refine r_mkStand ?_ | with_reducible refine r_make ?_ | with_reducible refine r_makeG ?_ | with_reducible refine q_sfld ?_ | with_reducible refine r_sfld ?_
  | ((with_reducible apply r_setNow); (assumption)) | ((with_reducible apply r_setPast); (assumption)) | ((with_reducible apply r_setLater); (assumption)) | ((with_reducible apply r_setShown); (assumption)) | ((with_reducible apply r_eqNilM); (assumption)) | ((with_reducible apply r_lenOA); (walk_at "ha")) | ((with_reducible apply r_reprOA); (walk_at "ha"))))
local macro_rules | `(tactic| walk_at "ha") => `(tactic| first | assumption | exact HouseIn.at_ (by assumption))
local macro_rules | `(tactic| walk_at "ok") => `(tactic| first | assumption)
abbrev FnP (K : PySem.W.Frag) (x : Str) (st : Stmt) (kws : List (Str × V)) (f : Addr) (fd : FuncData) (dvs : List V := []) : Prop := FunD K x x (defArgs st) (defBody st) (defScope st) dvs kws f fd
/-- what the top has written -/
structure Txt (K : PySem.W.Frag) (mg : Str → Option Value) (base : Heap) : Type where
  fd_Stand___init__ : FuncData
  F_Stand___init__ : FunD K "__init__" "Stand.__init__" (defArgs s_Stand___init__) (defBody s_Stand___init__) (defScope s_Stand___init__) [] [] (He.ma K (He.ga K "Stand") "__init__") fd_Stand___init__
  mk_Stand : Mk K (He.ga K "Stand") (He.ma K (He.ga K "Stand") "__init__")
  fd_is_whole : FuncData
  F_is_whole : FnP K "is_whole" s_is_whole [] (He.ga K "is_whole") fd_is_whole
  g_is_whole : mg "is_whole" = some (.ref (He.ga K "is_whole"))
  fd_is_size : FuncData
  F_is_size : FnP K "is_size" s_is_size [] (He.ga K "is_size") fd_is_size
  g_is_size : mg "is_size" = some (.ref (He.ga K "is_size"))
  fd_need_measures : FuncData
  F_need_measures : FnP K "need_measures" s_need_measures [] (He.ga K "need_measures") fd_need_measures
  g_need_measures : mg "need_measures" = some (.ref (He.ga K "need_measures"))
  fd_common : FuncData
  F_common : FnP K "common" s_common [] (He.ga K "common") fd_common
  g_common : mg "common" = some (.ref (He.ga K "common"))
  fd_is_part : FuncData
  F_is_part : FnP K "is_part" s_is_part [] (He.ga K "is_part") fd_is_part
  g_is_part : mg "is_part" = some (.ref (He.ga K "is_part"))
  fd_is_bound : FuncData
  F_is_bound : FnP K "is_bound" s_is_bound [] (He.ga K "is_bound") fd_is_bound
  g_is_bound : mg "is_bound" = some (.ref (He.ga K "is_bound"))
  fd_need_bound : FuncData
  F_need_bound : FnP K "need_bound" s_need_bound [] (He.ga K "need_bound") fd_need_bound
  g_need_bound : mg "need_bound" = some (.ref (He.ga K "need_bound"))
  fd_need_side : FuncData
  F_need_side : FnP K "need_side" s_need_side [] (He.ga K "need_side") fd_need_side
  g_need_side : mg "need_side" = some (.ref (He.ga K "need_side"))
  fd_Nest___init__ : FuncData
  F_Nest___init__ : FunD K "__init__" "Nest.__init__" (defArgs s_Nest___init__) (defBody s_Nest___init__) (defScope s_Nest___init__) [] [] (He.ma K (He.ga K "Nest") "__init__") fd_Nest___init__
  mk_Nest : Mk K (He.ga K "Nest") (He.ma K (He.ga K "Nest") "__init__")
  fd_House___init__ : FuncData
  F_House___init__ : FunD K "__init__" "House.__init__" (defArgs s_House___init__) (defBody s_House___init__) (defScope s_House___init__) [] [("bound", .ref (He.ga K "BOUND")), ("side", .str "down")] (He.ma K (He.ga K "House") "__init__") fd_House___init__
  mk_House : Mk K (He.ga K "House") (He.ma K (He.ga K "House") "__init__")
  fd_law_bag : FuncData
  F_law_bag : FnP K "_law_bag" s_law_bag [] (He.ga K "_law_bag") fd_law_bag
  g_law_bag : mg "_law_bag" = some (.ref (He.ga K "_law_bag"))
  fd_House_steps : FuncData
  F_House_steps : FunD K "steps" "House.steps" (defArgs s_House_steps) (defBody s_House_steps) (defScope s_House_steps) [] [] (He.ma K (He.ga K "House") "steps") fd_House_steps
  m_House_steps : Meth K (He.ga K "House") "steps" (He.ma K (He.ga K "House") "steps")
  fd_Stand_order : FuncData
  F_Stand_order : FunD K "order" "Stand.order" (defArgs s_Stand_order) (defBody s_Stand_order) (defScope s_Stand_order) [] [] (He.ma K (He.ga K "Stand") "order") fd_Stand_order
  m_Stand_order : Meth K (He.ga K "Stand") "order" (He.ma K (He.ga K "Stand") "order")
  fd_Stand_within : FuncData
  F_Stand_within : FunD K "within" "Stand.within" (defArgs s_Stand_within) (defBody s_Stand_within) (defScope s_Stand_within) [] [] (He.ma K (He.ga K "Stand") "within") fd_Stand_within
  m_Stand_within : Meth K (He.ga K "Stand") "within" (He.ma K (He.ga K "Stand") "within")
  fd_Stand_weight_of : FuncData
  F_Stand_weight_of : FunD K "weight_of" "Stand.weight_of" (defArgs s_Stand_weight_of) (defBody s_Stand_weight_of) (defScope s_Stand_weight_of) [] [] (He.ma K (He.ga K "Stand") "weight_of") fd_Stand_weight_of
  m_Stand_weight_of : Meth K (He.ga K "Stand") "weight_of" (He.ma K (He.ga K "Stand") "weight_of")
  fd_box_of : FuncData
  F_box_of : FnP K "box_of" s_box_of [("left", .int 0), ("top", .int 0)] (He.ga K "box_of") fd_box_of
  g_box_of : mg "box_of" = some (.ref (He.ga K "box_of"))
  fd_Stand_boxes_in : FuncData
  F_Stand_boxes_in : FunD K "boxes_in" "Stand.boxes_in" (defArgs s_Stand_boxes_in) (defBody s_Stand_boxes_in) (defScope s_Stand_boxes_in) [] [] (He.ma K (He.ga K "Stand") "boxes_in") fd_Stand_boxes_in
  m_Stand_boxes_in : Meth K (He.ga K "Stand") "boxes_in" (He.ma K (He.ga K "Stand") "boxes_in")
  fd_Stand_boxes : FuncData
  F_Stand_boxes : FunD K "boxes" "Stand.boxes" (defArgs s_Stand_boxes) (defBody s_Stand_boxes) (defScope s_Stand_boxes) [] [] (He.ma K (He.ga K "Stand") "boxes") fd_Stand_boxes
  m_Stand_boxes : Meth K (He.ga K "Stand") "boxes" (He.ma K (He.ga K "Stand") "boxes")
  fd_House_all_boxes : FuncData
  F_House_all_boxes : FunD K "all_boxes" "House.all_boxes" (defArgs s_House_all_boxes) (defBody s_House_all_boxes) (defScope s_House_all_boxes) [] [] (He.ma K (He.ga K "House") "all_boxes") fd_House_all_boxes
  m_House_all_boxes : Meth K (He.ga K "House") "all_boxes" (He.ma K (He.ga K "House") "all_boxes")
  fd_House_boxes : FuncData
  F_House_boxes : FunD K "boxes" "House.boxes" (defArgs s_House_boxes) (defBody s_House_boxes) (defScope s_House_boxes) [] [] (He.ma K (He.ga K "House") "boxes") fd_House_boxes
  m_House_boxes : Meth K (He.ga K "House") "boxes" (He.ma K (He.ga K "House") "boxes")
  fd_shape_by : FuncData
  F_shape_by : FnP K "shape_by" s_shape_by [] (He.ga K "shape_by") fd_shape_by
  g_shape_by : mg "shape_by" = some (.ref (He.ga K "shape_by"))
  fd_greatest : FuncData
  F_greatest : FnP K "greatest" s_greatest [] (He.ga K "greatest") fd_greatest
  g_greatest : mg "greatest" = some (.ref (He.ga K "greatest"))
  fd_House_worst : FuncData
  F_House_worst : FunD K "worst" "House.worst" (defArgs s_House_worst) (defBody s_House_worst) (defScope s_House_worst) [] [] (He.ma K (He.ga K "House") "worst") fd_House_worst
  m_House_worst : Meth K (He.ga K "House") "worst" (He.ma K (He.ga K "House") "worst")
  fd_lies_in : FuncData
  F_lies_in : FnP K "lies_in" s_lies_in [] (He.ga K "lies_in") fd_lies_in
  g_lies_in : mg "lies_in" = some (.ref (He.ga K "lies_in"))
  fd_House_under : FuncData
  F_House_under : FunD K "under" "House.under" (defArgs s_House_under) (defBody s_House_under) (defScope s_House_under) [] [] (He.ma K (He.ga K "House") "under") fd_House_under
  m_House_under : Meth K (He.ga K "House") "under" (He.ma K (He.ga K "House") "under")
  fd_lines_of : FuncData
  F_lines_of : FnP K "lines_of" s_lines_of [] (He.ga K "lines_of") fd_lines_of
  g_lines_of : mg "lines_of" = some (.ref (He.ga K "lines_of"))
  fd_drawn : FuncData
  F_drawn : FnP K "drawn" s_drawn [] (He.ga K "drawn") fd_drawn
  g_drawn : mg "drawn" = some (.ref (He.ga K "drawn"))
  fd_House_squares : FuncData
  F_House_squares : FunD K "squares" "House.squares" (defArgs s_House_squares) (defBody s_House_squares) (defScope s_House_squares) [] [] (He.ma K (He.ga K "House") "squares") fd_House_squares
  m_House_squares : Meth K (He.ga K "House") "squares" (He.ma K (He.ga K "House") "squares")
  fd_House___repr__ : FuncData
  F_House___repr__ : FunD K "__repr__" "House.__repr__" (defArgs s_House___repr__) (defBody s_House___repr__) (defScope s_House___repr__) [] [] (He.ma K (He.ga K "House") "__repr__") fd_House___repr__
  m_House___repr__ : Meth K (He.ga K "House") "__repr__" (He.ma K (He.ga K "House") "__repr__")
  fd_law_get : FuncData
  F_law_get : FnP K "_law_get" s_law_get [] (He.ga K "_law_get") fd_law_get
  g_law_get : mg "_law_get" = some (.ref (He.ga K "_law_get"))
  fd_law_pick : FuncData
  F_law_pick : FnP K "_law_pick" s_law_pick [] (He.ga K "_law_pick") fd_law_pick
  g_law_pick : mg "_law_pick" = some (.ref (He.ga K "_law_pick"))
  fd_law_all_names : FuncData
  F_law_all_names : FnP K "_law_all_names" s_law_all_names [] (He.ga K "_law_all_names") fd_law_all_names
  g_law_all_names : mg "_law_all_names" = some (.ref (He.ga K "_law_all_names"))
  fd_law_order : FuncData
  F_law_order : FnP K "_law_order" s_law_order [] (He.ga K "_law_order") fd_law_order
  g_law_order : mg "_law_order" = some (.ref (He.ga K "_law_order"))
  fd_law_inside : FuncData
  F_law_inside : FnP K "_law_inside" s_law_inside [] (He.ga K "_law_inside") fd_law_inside
  g_law_inside : mg "_law_inside" = some (.ref (He.ga K "_law_inside"))
  fd_law_weigh : FuncData
  F_law_weigh : FnP K "_law_weigh" s_law_weigh [] (He.ga K "_law_weigh") fd_law_weigh
  g_law_weigh : mg "_law_weigh" = some (.ref (He.ga K "_law_weigh"))
  fd_law_boxes_in : FuncData
  F_law_boxes_in : FnP K "_law_boxes_in" s_law_boxes_in [] (He.ga K "_law_boxes_in") fd_law_boxes_in
  g_law_boxes_in : mg "_law_boxes_in" = some (.ref (He.ga K "_law_boxes_in"))
  fd_law_boxes : FuncData
  F_law_boxes : FnP K "_law_boxes" s_law_boxes [] (He.ga K "_law_boxes") fd_law_boxes
  g_law_boxes : mg "_law_boxes" = some (.ref (He.ga K "_law_boxes"))
  fd_law_same : FuncData
  F_law_same : FnP K "_law_same" s_law_same [] (He.ga K "_law_same") fd_law_same
  g_law_same : mg "_law_same" = some (.ref (He.ga K "_law_same"))
  fd_House___len__ : FuncData
  F_House___len__ : FunD K "__len__" "House.__len__" (defArgs s_House___len__) (defBody s_House___len__) (defScope s_House___len__) [] [] (He.ma K (He.ga K "House") "__len__") fd_House___len__
  m_House___len__ : Meth K (He.ga K "House") "__len__" (He.ma K (He.ga K "House") "__len__")
  fd_House_names : FuncData
  F_House_names : FunD K "names" "House.names" (defArgs s_House_names) (defBody s_House_names) (defScope s_House_names) [] [] (He.ma K (He.ga K "House") "names") fd_House_names
  m_House_names : Meth K (He.ga K "House") "names" (He.ma K (He.ga K "House") "names")
  fd_House_size : FuncData
  F_House_size : FunD K "size" "House.size" (defArgs s_House_size) (defBody s_House_size) (defScope s_House_size) [] [] (He.ma K (He.ga K "House") "size") fd_House_size
  m_House_size : Meth K (He.ga K "House") "size" (He.ma K (He.ga K "House") "size")
  fd_House_bound : FuncData
  F_House_bound : FunD K "bound" "House.bound" (defArgs s_House_bound) (defBody s_House_bound) (defScope s_House_bound) [] [] (He.ma K (He.ga K "House") "bound") fd_House_bound
  m_House_bound : Meth K (He.ga K "House") "bound" (He.ma K (He.ga K "House") "bound")
  fd_Stand_known : FuncData
  F_Stand_known : FunD K "known" "Stand.known" (defArgs s_Stand_known) (defBody s_Stand_known) (defScope s_Stand_known) [] [] (He.ma K (He.ga K "Stand") "known") fd_Stand_known
  m_Stand_known : Meth K (He.ga K "Stand") "known" (He.ma K (He.ga K "Stand") "known")
  fd_need_known : FuncData
  F_need_known : FnP K "need_known" s_need_known [] (He.ga K "need_known") fd_need_known
  g_need_known : mg "need_known" = some (.ref (He.ga K "need_known"))
  fd_House_need_any : FuncData
  F_House_need_any : FunD K "need_any" "House.need_any" (defArgs s_House_need_any) (defBody s_House_need_any) (defScope s_House_need_any) [] [] (He.ma K (He.ga K "House") "need_any") fd_House_need_any
  m_House_need_any : Meth K (He.ga K "House") "need_any" (He.ma K (He.ga K "House") "need_any")
  fd_House_weight : FuncData
  F_House_weight : FunD K "weight" "House.weight" (defArgs s_House_weight) (defBody s_House_weight) (defScope s_House_weight) [] [] (He.ma K (He.ga K "House") "weight") fd_House_weight
  m_House_weight : Meth K (He.ga K "House") "weight" (He.ma K (He.ga K "House") "weight")
  fd_Stand_is_nest : FuncData
  F_Stand_is_nest : FunD K "is_nest" "Stand.is_nest" (defArgs s_Stand_is_nest) (defBody s_Stand_is_nest) (defScope s_Stand_is_nest) [] [] (He.ma K (He.ga K "Stand") "is_nest") fd_Stand_is_nest
  m_Stand_is_nest : Meth K (He.ga K "Stand") "is_nest" (He.ma K (He.ga K "Stand") "is_nest")
  fd_need_nest : FuncData
  F_need_nest : FnP K "need_nest" s_need_nest [] (He.ga K "need_nest") fd_need_nest
  g_need_nest : mg "need_nest" = some (.ref (He.ga K "need_nest"))
  fd_House_side : FuncData
  F_House_side : FunD K "side" "House.side" (defArgs s_House_side) (defBody s_House_side) (defScope s_House_side) [] [] (He.ma K (He.ga K "House") "side") fd_House_side
  m_House_side : Meth K (He.ga K "House") "side" (He.ma K (He.ga K "House") "side")
  fd_House_children : FuncData
  F_House_children : FunD K "children" "House.children" (defArgs s_House_children) (defBody s_House_children) (defScope s_House_children) [] [] (He.ma K (He.ga K "House") "children") fd_House_children
  m_House_children : Meth K (He.ga K "House") "children" (He.ma K (He.ga K "House") "children")
  fd_House_rows : FuncData
  F_House_rows : FunD K "rows" "House.rows" (defArgs s_House_rows) (defBody s_House_rows) (defScope s_House_rows) [] [] (He.ma K (He.ga K "House") "rows") fd_House_rows
  m_House_rows : Meth K (He.ga K "House") "rows" (He.ma K (He.ga K "House") "rows")
  fd_House_box : FuncData
  F_House_box : FunD K "box" "House.box" (defArgs s_House_box) (defBody s_House_box) (defScope s_House_box) [] [] (He.ma K (He.ga K "House") "box") fd_House_box
  m_House_box : Meth K (He.ga K "House") "box" (He.ma K (He.ga K "House") "box")
  fd_law_right : FuncData
  F_law_right : FnP K "_law_right" s_law_right [] (He.ga K "_law_right") fd_law_right
  g_law_right : mg "_law_right" = some (.ref (He.ga K "_law_right"))
  fd_law_gcd : FuncData
  F_law_gcd : FnP K "_law_gcd" s_law_gcd [] (He.ga K "_law_gcd") fd_law_gcd
  g_law_gcd : mg "_law_gcd" = some (.ref (He.ga K "_law_gcd"))
  fd_law_part : FuncData
  F_law_part : FnP K "_law_part" s_law_part [] (He.ga K "_law_part") fd_law_part
  g_law_part : mg "_law_part" = some (.ref (He.ga K "_law_part"))
  fd_law_bound : FuncData
  F_law_bound : FnP K "_law_bound" s_law_bound [] (He.ga K "_law_bound") fd_law_bound
  g_law_bound : mg "_law_bound" = some (.ref (He.ga K "_law_bound"))
  fd_law_lean : FuncData
  F_law_lean : FnP K "_law_lean" s_law_lean [] (He.ga K "_law_lean") fd_law_lean
  g_law_lean : mg "_law_lean" = some (.ref (He.ga K "_law_lean"))
  fd_law_ask : FuncData
  F_law_ask : FnP K "_law_ask" s_law_ask [] (He.ga K "_law_ask") fd_law_ask
  g_law_ask : mg "_law_ask" = some (.ref (He.ga K "_law_ask"))
  fd_law_why : FuncData
  F_law_why : FnP K "_law_why" s_law_why [] (He.ga K "_law_why") fd_law_why
  g_law_why : mg "_law_why" = some (.ref (He.ga K "_law_why"))
  fd_law_whole : FuncData
  F_law_whole : FnP K "_law_whole" s_law_whole [] (He.ga K "_law_whole") fd_law_whole
  g_law_whole : mg "_law_whole" = some (.ref (He.ga K "_law_whole"))
  fd_law_size_ok : FuncData
  F_law_size_ok : FnP K "_law_size_ok" s_law_size_ok [] (He.ga K "_law_size_ok") fd_law_size_ok
  g_law_size_ok : mg "_law_size_ok" = some (.ref (He.ga K "_law_size_ok"))
  fd_law_new : FuncData
  F_law_new : FnP K "_law_new" s_law_new [] (He.ga K "_law_new") fd_law_new
  g_law_new : mg "_law_new" = some (.ref (He.ga K "_law_new"))
  fd_House_stand_so : FuncData
  F_House_stand_so : FunD K "stand_so" "House.stand_so" (defArgs s_House_stand_so) (defBody s_House_stand_so) (defScope s_House_stand_so) [] [] (He.ma K (He.ga K "House") "stand_so") fd_House_stand_so
  m_House_stand_so : Meth K (He.ga K "House") "stand_so" (He.ma K (He.ga K "House") "stand_so")
  fd_House_undo : FuncData
  F_House_undo : FunD K "undo" "House.undo" (defArgs s_House_undo) (defBody s_House_undo) (defScope s_House_undo) [] [] (He.ma K (He.ga K "House") "undo") fd_House_undo
  m_House_undo : Meth K (He.ga K "House") "undo" (He.ma K (He.ga K "House") "undo")
  fd_House_redo : FuncData
  F_House_redo : FunD K "redo" "House.redo" (defArgs s_House_redo) (defBody s_House_redo) (defScope s_House_redo) [] [] (He.ma K (He.ga K "House") "redo") fd_House_redo
  m_House_redo : Meth K (He.ga K "House") "redo" (He.ma K (He.ga K "House") "redo")
  fd_law_is_part : FuncData
  F_law_is_part : FnP K "_law_is_part" s_law_is_part [] (He.ga K "_law_is_part") fd_law_is_part
  g_law_is_part : mg "_law_is_part" = some (.ref (He.ga K "_law_is_part"))
  fd_law_is_bound : FuncData
  F_law_is_bound : FnP K "_law_is_bound" s_law_is_bound [] (He.ga K "_law_is_bound") fd_law_is_bound
  g_law_is_bound : mg "_law_is_bound" = some (.ref (He.ga K "_law_is_bound"))
  fd_law : FuncData
  F_law : FnP K "law" s_law [] (He.ga K "law") fd_law
  g_law : mg "law" = some (.ref (He.ga K "law"))
  n_abs : mg "abs" = none
  n_all : mg "all" = none
  n_bool : mg "bool" = none
  n_dict : mg "dict" = none
  n_int : mg "int" = none
  n_isinstance : mg "isinstance" = none
  n_len : mg "len" = none
  n_list : mg "list" = none
  n_range : mg "range" = none
  n_repr : mg "repr" = none
  n_sorted : mg "sorted" = none
  n_str : mg "str" = none
  n_sum : mg "sum" = none
  n_tuple : mg "tuple" = none
  n_zip : mg "zip" = none
  c_ACROSS : ∃ t, mg "ACROSS" = some (.str "across" t)
  c_DOWN : ∃ t, mg "DOWN" = some (.str "down" t)
  c_GREATEST : ∃ t, mg "GREATEST" = some (.int 1000000000000000000000000000000 t)
  c_MOST_CHILDREN : ∃ t, mg "MOST_CHILDREN" = some (.int 12 t)
  c_MOST_DEEP : ∃ t, mg "MOST_DEEP" = some (.int 4 t)
  c_MOST_NAMES : ∃ t, mg "MOST_NAMES" = some (.int 40 t)
  c_MOST_SIZE : ∃ t, mg "MOST_SIZE" = some (.int 1000 t)
  c_MOST_SQUARES : ∃ t, mg "MOST_SQUARES" = some (.int 40 t)
  c_MOST_THING : ∃ t, mg "MOST_THING" = some (.int 10000 t)
  c_MOST_WEIGHT : ∃ t, mg "MOST_WEIGHT" = some (.int 400000 t)
  cl_Stand : Cls K (He.ga K "Stand")
  g_Stand : mg "Stand" = some (.ref (He.ga K "Stand"))
  na_Stand_measures : NoAttr K (He.ga K "Stand") "measures"
  na_Stand_most : NoAttr K (He.ga K "Stand") "most"
  na_Stand_weighed : NoAttr K (He.ga K "Stand") "weighed"
  na_Stand_held : NoAttr K (He.ga K "Stand") "held"
  cl_Nest : Cls K (He.ga K "Nest")
  g_Nest : mg "Nest" = some (.ref (He.ga K "Nest"))
  na_Nest_facing : NoAttr K (He.ga K "Nest") "facing"
  na_Nest_inner : NoAttr K (He.ga K "Nest") "inner"
  na_Nest_lines : NoAttr K (He.ga K "Nest") "lines"
  cl_House : Cls K (He.ga K "House")
  g_House : mg "House" = some (.ref (He.ga K "House"))
  na_House_now : NoAttr K (He.ga K "House") "now"
  na_House_past : NoAttr K (He.ga K "House") "past"
  na_House_later : NoAttr K (He.ga K "House") "later"
  na_House_shown_now : NoAttr K (He.ga K "House") "shown_now"
  g_CutError : mg "CutError" = some (.ref (He.ga K "CutError"))
  g_Missing : mg "Missing" = some (.ref (He.ga K "Missing"))
  g_NothingLeft : mg "NothingLeft" = some (.ref (He.ga K "NothingLeft"))
  g_BadBox : mg "BadBox" = some (.ref (He.ga K "BadBox"))
  g_BadSide : mg "BadSide" = some (.ref (He.ga K "BadSide"))
  g_BadSizes : mg "BadSizes" = some (.ref (He.ga K "BadSizes"))
  g_BadBound : mg "BadBound" = some (.ref (He.ga K "BadBound"))
  g_NoName : mg "NoName" = some (.ref (He.ga K "NoName"))
  g_NoNest : mg "NoNest" = some (.ref (He.ga K "NoNest"))
  g_Bare : mg "Bare" = some (.ref (He.ga K "Bare"))
  x_CutError : XClass K .v "CutError"
  fd_i_CutError : FuncData
  F_i_CutError : FunD K "__init__" "CutError.__init__" (defArgs si_CutError) (defBody si_CutError) (defScope si_CutError) [] [] (iniA K "CutError") fd_i_CutError
  x_Missing : XClass K .l "Missing"
  fd_i_Missing : FuncData
  F_i_Missing : FunD K "__init__" "Missing.__init__" (defArgs si_Missing) (defBody si_Missing) (defScope si_Missing) [] [] (iniA K "Missing") fd_i_Missing
  x_NothingLeft : XClass K .i "NothingLeft"
  fd_i_NothingLeft : FuncData
  F_i_NothingLeft : FunD K "__init__" "NothingLeft.__init__" (defArgs si_NothingLeft) (defBody si_NothingLeft) (defScope si_NothingLeft) [] [] (iniA K "NothingLeft") fd_i_NothingLeft
  x_BadBox : XClass K .v "BadBox"
  fd_i_BadBox : FuncData
  F_i_BadBox : FunD K "__init__" "BadBox.__init__" (defArgs si_BadBox) (defBody si_BadBox) (defScope si_BadBox) [] [] (iniA K "BadBox") fd_i_BadBox
  x_BadSide : XClass K .v "BadSide"
  fd_i_BadSide : FuncData
  F_i_BadSide : FunD K "__init__" "BadSide.__init__" (defArgs si_BadSide) (defBody si_BadSide) (defScope si_BadSide) [] [] (iniA K "BadSide") fd_i_BadSide
  x_BadSizes : XClass K .v "BadSizes"
  fd_i_BadSizes : FuncData
  F_i_BadSizes : FunD K "__init__" "BadSizes.__init__" (defArgs si_BadSizes) (defBody si_BadSizes) (defScope si_BadSizes) [] [] (iniA K "BadSizes") fd_i_BadSizes
  x_BadBound : XClass K .v "BadBound"
  fd_i_BadBound : FuncData
  F_i_BadBound : FunD K "__init__" "BadBound.__init__" (defArgs si_BadBound) (defBody si_BadBound) (defScope si_BadBound) [] [] (iniA K "BadBound") fd_i_BadBound
  x_NoName : XClass K .l "NoName"
  fd_i_NoName : FuncData
  F_i_NoName : FunD K "__init__" "NoName.__init__" (defArgs si_NoName) (defBody si_NoName) (defScope si_NoName) [] [] (iniA K "NoName") fd_i_NoName
  x_NoNest : XClass K .l "NoNest"
  fd_i_NoNest : FuncData
  F_i_NoNest : FunD K "__init__" "NoNest.__init__" (defArgs si_NoNest) (defBody si_NoNest) (defScope si_NoNest) [] [] (iniA K "NoNest") fd_i_NoNest
  x_Bare : XClass K .l "Bare"
  fd_i_Bare : FuncData
  F_i_Bare : FunD K "__init__" "Bare.__init__" (defArgs si_Bare) (defBody si_Bare) (defScope si_Bare) [] [] (iniA K "Bare") fd_i_Bare
  n_IndexError : mg "IndexError" = none
  n_LookupError : mg "LookupError" = none
  n_ValueError : mg "ValueError" = none
  xcatch : CatchOk K [.ref (He.ga K "CutError"), .ref (He.ga K "Missing"), .ref (He.ga K "NothingLeft")] exL
  g_BOUND : mg "BOUND" = some (.ref (He.ga K "BOUND"))
  k_BOUND : He.tupB K "BOUND" [.int 2, .int 1] = true
  cd_law : fd_law.code = .ref (He.cT K ("law", none)).1
  tb_law : LamX.TabB base mg (He.cT K ("law", none)).1 (tabA K "law")
theorem b_i_CutError {K : PySem.W.Frag} {mg : Str → Option Value} {base : Heap} (T : Txt K mg base) : Binds K T.fd_i_CutError ["self", "called"] [] := FunD.bindsN T.F_i_CutError fun _ _ _ _ _ _ us hl => match us, hl with | [_, _], _ => rfl
theorem sc_i_CutError : FnScope ["self", "called"] ["self", "called"] (defScope si_CutError) := ⟨rfl, rfl, rfl, by decide +kernel, rfl, by decide +kernel, by decide +kernel⟩
theorem ok_i_CutError {P : Program} {w : World} {K : PySem.W.Frag} {mg : Str → Option Value} {base : Heap} (T : Txt K mg base) : FnOk P w K mg base (L2.CX P w) 1 (iniA K "CutError") T.fd_i_CutError ["self", "called"] (spX K .v 1 (fun ws => [("called", ws.getD 0 .non)])) := FunD.ok T.F_i_CutError sc_i_CutError spX_len fun cdv A outer s H vs Q E hr h => ⟨_, pss_cons (ps_expr (pe_binit .v (by rfl) rfl T.n_ValueError (pa_cons (pe_var (i := 0) rfl (.inl rfl) (by decide) (by decide)) (pa_cons (pe_var (i := 1) rfl (.inl rfl) (by decide) (by decide)) pa_nil)) (by decide) (by decide))) (pss_one (ps_xs (pe_var (i := 0) rfl (.inl rfl) (by decide) (by decide)) (pe_var (i := 1) rfl (.inl rfl) (by decide) (by decide)))), base_read h⟩ in
#guard_msgs (pass all) in open Nat
theorem b_i_Missing {K : PySem.W.Frag} {mg : Str → Option Value} {base : Heap} (T : Txt K mg base) : Binds K T.fd_i_Missing ["self", "called", "name"] [] := FunD.bindsN T.F_i_Missing fun _ _ _ _ _ _ us hl => match us, hl with | [_, _, _], _ => rfl
theorem sc_i_Missing : FnScope ["self", "called", "name"] ["self", "called", "name"] (defScope si_Missing) := ⟨rfl, rfl, rfl, by decide +kernel, rfl, by decide +kernel, by decide +kernel⟩
theorem ok_i_Missing {P : Program} {w : World} {K : PySem.W.Frag} {mg : Str → Option Value} {base : Heap} (T : Txt K mg base) : FnOk P w K mg base (L2.CX P w) 1 (iniA K "Missing") T.fd_i_Missing ["self", "called", "name"] (spX K .l 2 (fun ws => [("name", ws.getD 1 .non), ("called", ws.getD 0 .non)])) := FunD.ok T.F_i_Missing sc_i_Missing spX_len fun cdv A outer s H vs Q E hr h => ⟨_, pss_cons (ps_expr (pe_binit .l (by rfl) rfl T.n_LookupError (pa_cons (pe_var (i := 0) rfl (.inl rfl) (by decide) (by decide)) (pa_cons (pe_var (i := 1) rfl (.inl rfl) (by decide) (by decide)) pa_nil)) (by decide) (by decide))) (pss_cons (ps_xs (pe_var (i := 0) rfl (.inl rfl) (by decide) (by decide)) (pe_var (i := 1) rfl (.inl rfl) (by decide) (by decide))) (pss_one (ps_xs (pe_var (i := 0) rfl (.inl rfl) (by decide) (by decide)) (pe_var (i := 2) rfl (.inl rfl) (by decide) (by decide))))), base2_read h⟩ in
#guard_msgs (pass all) in open Nat
theorem b_i_NothingLeft {K : PySem.W.Frag} {mg : Str → Option Value} {base : Heap} (T : Txt K mg base) : Binds K T.fd_i_NothingLeft ["self"] [] := FunD.bindsN T.F_i_NothingLeft fun _ _ _ _ _ _ us hl => match us, hl with | [_], _ => rfl
theorem sc_i_NothingLeft : FnScope ["self"] ["self"] (defScope si_NothingLeft) := ⟨rfl, rfl, rfl, by decide +kernel, rfl, by decide +kernel, by decide +kernel⟩
theorem ok_i_NothingLeft {P : Program} {w : World} {K : PySem.W.Frag} {mg : Str → Option Value} {base : Heap} (T : Txt K mg base) : FnOk P w K mg base (L2.CX P w) 1 (iniA K "NothingLeft") T.fd_i_NothingLeft ["self"] (spX K .i 0 (g0V "NothingLeft")) := FunD.ok T.F_i_NothingLeft sc_i_NothingLeft spX_len fun cdv A outer s H vs Q E hr h => ⟨_, pss_cons (ps_expr (pe_binit .i (by rfl) rfl T.n_IndexError (pa_cons (pe_var (i := 0) rfl (.inl rfl) (by decide) (by decide)) (pa_cons pe_str pa_nil)) (by decide) (by decide))) (pss_one (ps_xs (pe_var (i := 0) rfl (.inl rfl) (by decide) (by decide)) pe_str)), base0_read h⟩ in
#guard_msgs (pass all) in open Nat
theorem b_i_BadBox {K : PySem.W.Frag} {mg : Str → Option Value} {base : Heap} (T : Txt K mg base) : Binds K T.fd_i_BadBox ["self"] [] := FunD.bindsN T.F_i_BadBox fun _ _ _ _ _ _ us hl => match us, hl with | [_], _ => rfl
theorem sc_i_BadBox : FnScope ["self"] ["self"] (defScope si_BadBox) := ⟨rfl, rfl, rfl, by decide +kernel, rfl, by decide +kernel, by decide +kernel⟩
theorem ok_i_BadBox {P : Program} {w : World} {K : PySem.W.Frag} {mg : Str → Option Value} {base : Heap} (T : Txt K mg base) : FnOk P w K mg base (L2.CX P w) 2 (iniA K "BadBox") T.fd_i_BadBox ["self"] (spX K .v 0 (g0V "BadBox")) := FunD.ok T.F_i_BadBox sc_i_BadBox spX_len fun cdv A outer s H vs Q E hr h => ⟨_, pss_one (ps_expr (pe_cfun (ok_i_CutError T) hr rfl T.g_CutError T.x_CutError.rd T.x_CutError.vl T.F_i_CutError.kp (b_i_CutError T) .nil noOut (pa_cons (pe_var (i := 0) rfl (.inl rfl) (by decide) (by decide)) (pa_cons pe_str pa_nil)))), over_read h⟩ in
#guard_msgs (pass all) in open Nat
theorem b_i_BadSide {K : PySem.W.Frag} {mg : Str → Option Value} {base : Heap} (T : Txt K mg base) : Binds K T.fd_i_BadSide ["self"] [] := FunD.bindsN T.F_i_BadSide fun _ _ _ _ _ _ us hl => match us, hl with | [_], _ => rfl
theorem sc_i_BadSide : FnScope ["self"] ["self"] (defScope si_BadSide) := ⟨rfl, rfl, rfl, by decide +kernel, rfl, by decide +kernel, by decide +kernel⟩
theorem ok_i_BadSide {P : Program} {w : World} {K : PySem.W.Frag} {mg : Str → Option Value} {base : Heap} (T : Txt K mg base) : FnOk P w K mg base (L2.CX P w) 2 (iniA K "BadSide") T.fd_i_BadSide ["self"] (spX K .v 0 (g0V "BadSide")) := FunD.ok T.F_i_BadSide sc_i_BadSide spX_len fun cdv A outer s H vs Q E hr h => ⟨_, pss_one (ps_expr (pe_cfun (ok_i_CutError T) hr rfl T.g_CutError T.x_CutError.rd T.x_CutError.vl T.F_i_CutError.kp (b_i_CutError T) .nil noOut (pa_cons (pe_var (i := 0) rfl (.inl rfl) (by decide) (by decide)) (pa_cons pe_str pa_nil)))), over_read h⟩ in
#guard_msgs (pass all) in open Nat
theorem b_i_BadSizes {K : PySem.W.Frag} {mg : Str → Option Value} {base : Heap} (T : Txt K mg base) : Binds K T.fd_i_BadSizes ["self"] [] := FunD.bindsN T.F_i_BadSizes fun _ _ _ _ _ _ us hl => match us, hl with | [_], _ => rfl
theorem sc_i_BadSizes : FnScope ["self"] ["self"] (defScope si_BadSizes) := ⟨rfl, rfl, rfl, by decide +kernel, rfl, by decide +kernel, by decide +kernel⟩
theorem ok_i_BadSizes {P : Program} {w : World} {K : PySem.W.Frag} {mg : Str → Option Value} {base : Heap} (T : Txt K mg base) : FnOk P w K mg base (L2.CX P w) 2 (iniA K "BadSizes") T.fd_i_BadSizes ["self"] (spX K .v 0 (g0V "BadSizes")) := FunD.ok T.F_i_BadSizes sc_i_BadSizes spX_len fun cdv A outer s H vs Q E hr h => ⟨_, pss_one (ps_expr (pe_cfun (ok_i_CutError T) hr rfl T.g_CutError T.x_CutError.rd T.x_CutError.vl T.F_i_CutError.kp (b_i_CutError T) .nil noOut (pa_cons (pe_var (i := 0) rfl (.inl rfl) (by decide) (by decide)) (pa_cons pe_str pa_nil)))), over_read h⟩ in
#guard_msgs (pass all) in open Nat
theorem b_i_BadBound {K : PySem.W.Frag} {mg : Str → Option Value} {base : Heap} (T : Txt K mg base) : Binds K T.fd_i_BadBound ["self"] [] := FunD.bindsN T.F_i_BadBound fun _ _ _ _ _ _ us hl => match us, hl with | [_], _ => rfl
theorem sc_i_BadBound : FnScope ["self"] ["self"] (defScope si_BadBound) := ⟨rfl, rfl, rfl, by decide +kernel, rfl, by decide +kernel, by decide +kernel⟩
theorem ok_i_BadBound {P : Program} {w : World} {K : PySem.W.Frag} {mg : Str → Option Value} {base : Heap} (T : Txt K mg base) : FnOk P w K mg base (L2.CX P w) 2 (iniA K "BadBound") T.fd_i_BadBound ["self"] (spX K .v 0 (g0V "BadBound")) := FunD.ok T.F_i_BadBound sc_i_BadBound spX_len fun cdv A outer s H vs Q E hr h => ⟨_, pss_one (ps_expr (pe_cfun (ok_i_CutError T) hr rfl T.g_CutError T.x_CutError.rd T.x_CutError.vl T.F_i_CutError.kp (b_i_CutError T) .nil noOut (pa_cons (pe_var (i := 0) rfl (.inl rfl) (by decide) (by decide)) (pa_cons pe_str pa_nil)))), over_read h⟩ in
#guard_msgs (pass all) in open Nat
theorem b_i_NoName {K : PySem.W.Frag} {mg : Str → Option Value} {base : Heap} (T : Txt K mg base) : Binds K T.fd_i_NoName ["self", "name"] [] := FunD.bindsN T.F_i_NoName fun _ _ _ _ _ _ us hl => match us, hl with | [_, _], _ => rfl
theorem sc_i_NoName : FnScope ["self", "name"] ["self", "name"] (defScope si_NoName) := ⟨rfl, rfl, rfl, by decide +kernel, rfl, by decide +kernel, by decide +kernel⟩
theorem ok_i_NoName {P : Program} {w : World} {K : PySem.W.Frag} {mg : Str → Option Value} {base : Heap} (T : Txt K mg base) : FnOk P w K mg base (L2.CX P w) 2 (iniA K "NoName") T.fd_i_NoName ["self", "name"] (spX K .l 1 (g1V "NoName" "name")) := FunD.ok T.F_i_NoName sc_i_NoName spX_len fun cdv A outer s H vs Q E hr h => ⟨_, pss_one (ps_expr (pe_cfun (ok_i_Missing T) hr rfl T.g_Missing T.x_Missing.rd T.x_Missing.vl T.F_i_Missing.kp (b_i_Missing T) .nil noOut (pa_cons (pe_var (i := 0) rfl (.inl rfl) (by decide) (by decide)) (pa_cons pe_str (pa_cons (pe_var (i := 1) rfl (.inl rfl) (by decide) (by decide)) pa_nil))))), over2_read h⟩ in
#guard_msgs (pass all) in open Nat
theorem b_i_NoNest {K : PySem.W.Frag} {mg : Str → Option Value} {base : Heap} (T : Txt K mg base) : Binds K T.fd_i_NoNest ["self", "name"] [] := FunD.bindsN T.F_i_NoNest fun _ _ _ _ _ _ us hl => match us, hl with | [_, _], _ => rfl
theorem sc_i_NoNest : FnScope ["self", "name"] ["self", "name"] (defScope si_NoNest) := ⟨rfl, rfl, rfl, by decide +kernel, rfl, by decide +kernel, by decide +kernel⟩
theorem ok_i_NoNest {P : Program} {w : World} {K : PySem.W.Frag} {mg : Str → Option Value} {base : Heap} (T : Txt K mg base) : FnOk P w K mg base (L2.CX P w) 2 (iniA K "NoNest") T.fd_i_NoNest ["self", "name"] (spX K .l 1 (g1V "NoNest" "name")) := FunD.ok T.F_i_NoNest sc_i_NoNest spX_len fun cdv A outer s H vs Q E hr h => ⟨_, pss_one (ps_expr (pe_cfun (ok_i_Missing T) hr rfl T.g_Missing T.x_Missing.rd T.x_Missing.vl T.F_i_Missing.kp (b_i_Missing T) .nil noOut (pa_cons (pe_var (i := 0) rfl (.inl rfl) (by decide) (by decide)) (pa_cons pe_str (pa_cons (pe_var (i := 1) rfl (.inl rfl) (by decide) (by decide)) pa_nil))))), over2_read h⟩ in
#guard_msgs (pass all) in open Nat
theorem b_i_Bare {K : PySem.W.Frag} {mg : Str → Option Value} {base : Heap} (T : Txt K mg base) : Binds K T.fd_i_Bare ["self", "name"] [] := FunD.bindsN T.F_i_Bare fun _ _ _ _ _ _ us hl => match us, hl with | [_, _], _ => rfl
theorem sc_i_Bare : FnScope ["self", "name"] ["self", "name"] (defScope si_Bare) := ⟨rfl, rfl, rfl, by decide +kernel, rfl, by decide +kernel, by decide +kernel⟩
theorem ok_i_Bare {P : Program} {w : World} {K : PySem.W.Frag} {mg : Str → Option Value} {base : Heap} (T : Txt K mg base) : FnOk P w K mg base (L2.CX P w) 2 (iniA K "Bare") T.fd_i_Bare ["self", "name"] (spX K .l 1 (g1V "Bare" "name")) := FunD.ok T.F_i_Bare sc_i_Bare spX_len fun cdv A outer s H vs Q E hr h => ⟨_, pss_one (ps_expr (pe_cfun (ok_i_Missing T) hr rfl T.g_Missing T.x_Missing.rd T.x_Missing.vl T.F_i_Missing.kp (b_i_Missing T) .nil noOut (pa_cons (pe_var (i := 0) rfl (.inl rfl) (by decide) (by decide)) (pa_cons pe_str (pa_cons (pe_var (i := 1) rfl (.inl rfl) (by decide) (by decide)) pa_nil))))), over2_read h⟩ in
#guard_msgs (pass all) in open Nat
theorem b_Stand___init__ {K : PySem.W.Frag} {mg : Str → Option Value} {base : Heap} (T : Txt K mg base) : Binds K T.fd_Stand___init__ ["self", "measures", "most", "weighed", "held"] [] := FunD.bindsN T.F_Stand___init__ fun _ _ _ _ _ _ us hl => match us, hl with | [_, _, _, _, _], _ => rfl
theorem b_is_whole {K : PySem.W.Frag} {mg : Str → Option Value} {base : Heap} (T : Txt K mg base) : Binds K T.fd_is_whole ["thing"] [] := FunD.bindsN T.F_is_whole fun _ _ _ _ _ _ us hl => match us, hl with | [_], _ => rfl
theorem b_is_size {K : PySem.W.Frag} {mg : Str → Option Value} {base : Heap} (T : Txt K mg base) : Binds K T.fd_is_size ["thing", "most"] [] := FunD.bindsN T.F_is_size fun _ _ _ _ _ _ us hl => match us, hl with | [_, _], _ => rfl
theorem b_need_measures {K : PySem.W.Frag} {mg : Str → Option Value} {base : Heap} (T : Txt K mg base) : Binds K T.fd_need_measures ["wide", "high"] [] := FunD.bindsN T.F_need_measures fun _ _ _ _ _ _ us hl => match us, hl with | [_, _], _ => rfl
theorem b_common {K : PySem.W.Frag} {mg : Str → Option Value} {base : Heap} (T : Txt K mg base) : Binds K T.fd_common ["one", "other"] [] := FunD.bindsN T.F_common fun _ _ _ _ _ _ us hl => match us, hl with | [_, _], _ => rfl
theorem b_is_part {K : PySem.W.Frag} {mg : Str → Option Value} {base : Heap} (T : Txt K mg base) : Binds K T.fd_is_part ["thing"] [] := FunD.bindsN T.F_is_part fun _ _ _ _ _ _ us hl => match us, hl with | [_], _ => rfl
theorem b_is_bound {K : PySem.W.Frag} {mg : Str → Option Value} {base : Heap} (T : Txt K mg base) : Binds K T.fd_is_bound ["thing"] [] := FunD.bindsN T.F_is_bound fun _ _ _ _ _ _ us hl => match us, hl with | [_], _ => rfl
theorem b_need_bound {K : PySem.W.Frag} {mg : Str → Option Value} {base : Heap} (T : Txt K mg base) : Binds K T.fd_need_bound ["bound"] [] := FunD.bindsN T.F_need_bound fun _ _ _ _ _ _ us hl => match us, hl with | [_], _ => rfl
theorem b_need_side {K : PySem.W.Frag} {mg : Str → Option Value} {base : Heap} (T : Txt K mg base) : Binds K T.fd_need_side ["side"] [] := FunD.bindsN T.F_need_side fun _ _ _ _ _ _ us hl => match us, hl with | [_], _ => rfl
theorem b_Nest___init__ {K : PySem.W.Frag} {mg : Str → Option Value} {base : Heap} (T : Txt K mg base) : Binds K T.fd_Nest___init__ ["self", "side", "children", "rows"] [] := FunD.bindsN T.F_Nest___init__ fun _ _ _ _ _ _ us hl => match us, hl with | [_, _, _, _], _ => rfl
theorem b0_House___init__ {K : PySem.W.Frag} {mg : Str → Option Value} {base : Heap} (T : Txt K mg base) : ∃ ds, Vals [.ref (He.ga K "BOUND"), .str "down"] ds ∧ Binds K T.fd_House___init__ ["self", "wide", "high", "bound", "side"] ds := FunD.binds0 (ps := ["self", "wide", "high", "bound", "side"]) T.F_House___init__ 3 (by intro z; cases z) rfl fun D doc pm an cdv ct us ks h1 h2 => match us, ks, h1, h2 with | [_, _, _], [_, _], _, _ => ⟨_, _, _, _, _, _, rfl, rfl, ⟨_, _, _, _, _, _, rfl, rfl, rfl⟩⟩ in
#guard_msgs (pass all) in open Nat
theorem b_law_bag {K : PySem.W.Frag} {mg : Str → Option Value} {base : Heap} (T : Txt K mg base) : Binds K T.fd_law_bag ["_law_script"] [] := FunD.bindsN T.F_law_bag fun _ _ _ _ _ _ us hl => match us, hl with | [_], _ => rfl
theorem b_House_steps {K : PySem.W.Frag} {mg : Str → Option Value} {base : Heap} (T : Txt K mg base) : Binds K T.fd_House_steps ["self"] [] := FunD.bindsN T.F_House_steps fun _ _ _ _ _ _ us hl => match us, hl with | [_], _ => rfl
theorem b_Stand_order {K : PySem.W.Frag} {mg : Str → Option Value} {base : Heap} (T : Txt K mg base) : Binds K T.fd_Stand_order ["self"] [] := FunD.bindsN T.F_Stand_order fun _ _ _ _ _ _ us hl => match us, hl with | [_], _ => rfl
theorem b_Stand_within {K : PySem.W.Frag} {mg : Str → Option Value} {base : Heap} (T : Txt K mg base) : Binds K T.fd_Stand_within ["self", "name"] [] := FunD.bindsN T.F_Stand_within fun _ _ _ _ _ _ us hl => match us, hl with | [_, _], _ => rfl
theorem b_Stand_weight_of {K : PySem.W.Frag} {mg : Str → Option Value} {base : Heap} (T : Txt K mg base) : Binds K T.fd_Stand_weight_of ["self", "name"] [] := FunD.bindsN T.F_Stand_weight_of fun _ _ _ _ _ _ us hl => match us, hl with | [_, _], _ => rfl
theorem b0_box_of {K : PySem.W.Frag} {mg : Str → Option Value} {base : Heap} (T : Txt K mg base) : ∃ ds, Vals [.int 0, .int 0] ds ∧ Binds K T.fd_box_of ["wide", "high", "left", "top"] ds := FunD.binds0 (ps := ["wide", "high", "left", "top"]) T.F_box_of 2 (by intro z; cases z) rfl fun D doc pm an cdv ct us ks h1 h2 => match us, ks, h1, h2 with | [_, _], [_, _], _, _ => ⟨_, _, _, _, _, _, rfl, rfl, ⟨_, _, _, _, _, _, rfl, rfl, rfl⟩⟩ in
#guard_msgs (pass all) in open Nat
theorem b_Stand_boxes_in {K : PySem.W.Frag} {mg : Str → Option Value} {base : Heap} (T : Txt K mg base) : Binds K T.fd_Stand_boxes_in ["self", "nest", "box"] [] := FunD.bindsN T.F_Stand_boxes_in fun _ _ _ _ _ _ us hl => match us, hl with | [_, _, _], _ => rfl
theorem b_Stand_boxes {K : PySem.W.Frag} {mg : Str → Option Value} {base : Heap} (T : Txt K mg base) : Binds K T.fd_Stand_boxes ["self"] [] := FunD.bindsN T.F_Stand_boxes fun _ _ _ _ _ _ us hl => match us, hl with | [_], _ => rfl
theorem b_House_all_boxes {K : PySem.W.Frag} {mg : Str → Option Value} {base : Heap} (T : Txt K mg base) : Binds K T.fd_House_all_boxes ["self"] [] := FunD.bindsN T.F_House_all_boxes fun _ _ _ _ _ _ us hl => match us, hl with | [_], _ => rfl
theorem b_House_boxes {K : PySem.W.Frag} {mg : Str → Option Value} {base : Heap} (T : Txt K mg base) : Binds K T.fd_House_boxes ["self"] [] := FunD.bindsN T.F_House_boxes fun _ _ _ _ _ _ us hl => match us, hl with | [_], _ => rfl
theorem b_shape_by {K : PySem.W.Frag} {mg : Str → Option Value} {base : Heap} (T : Txt K mg base) : Binds K T.fd_shape_by ["wide", "high"] [] := FunD.bindsN T.F_shape_by fun _ _ _ _ _ _ us hl => match us, hl with | [_, _], _ => rfl
theorem b_greatest {K : PySem.W.Frag} {mg : Str → Option Value} {base : Heap} (T : Txt K mg base) : Binds K T.fd_greatest ["parts"] [] := FunD.bindsN T.F_greatest fun _ _ _ _ _ _ us hl => match us, hl with | [_], _ => rfl
theorem b_House_worst {K : PySem.W.Frag} {mg : Str → Option Value} {base : Heap} (T : Txt K mg base) : Binds K T.fd_House_worst ["self"] [] := FunD.bindsN T.F_House_worst fun _ _ _ _ _ _ us hl => match us, hl with | [_], _ => rfl
theorem b_lies_in {K : PySem.W.Frag} {mg : Str → Option Value} {base : Heap} (T : Txt K mg base) : Binds K T.fd_lies_in ["box", "x", "y"] [] := FunD.bindsN T.F_lies_in fun _ _ _ _ _ _ us hl => match us, hl with | [_, _, _], _ => rfl
theorem b_House_under {K : PySem.W.Frag} {mg : Str → Option Value} {base : Heap} (T : Txt K mg base) : Binds K T.fd_House_under ["self", "x", "y"] [] := FunD.bindsN T.F_House_under fun _ _ _ _ _ _ us hl => match us, hl with | [_, _, _], _ => rfl
theorem b_lines_of {K : PySem.W.Frag} {mg : Str → Option Value} {base : Heap} (T : Txt K mg base) : Binds K T.fd_lines_of ["box", "wide", "high", "columns", "rows"] [] := FunD.bindsN T.F_lines_of fun _ _ _ _ _ _ us hl => match us, hl with | [_, _, _, _, _], _ => rfl
theorem b_drawn {K : PySem.W.Frag} {mg : Str → Option Value} {base : Heap} (T : Txt K mg base) : Binds K T.fd_drawn ["boxes", "wide", "high", "columns", "rows"] [] := FunD.bindsN T.F_drawn fun _ _ _ _ _ _ us hl => match us, hl with | [_, _, _, _, _], _ => rfl
theorem b_House_squares {K : PySem.W.Frag} {mg : Str → Option Value} {base : Heap} (T : Txt K mg base) : Binds K T.fd_House_squares ["self", "columns", "rows"] [] := FunD.bindsN T.F_House_squares fun _ _ _ _ _ _ us hl => match us, hl with | [_, _, _], _ => rfl
theorem b_House___repr__ {K : PySem.W.Frag} {mg : Str → Option Value} {base : Heap} (T : Txt K mg base) : Binds K T.fd_House___repr__ ["self"] [] := FunD.bindsN T.F_House___repr__ fun _ _ _ _ _ _ us hl => match us, hl with | [_], _ => rfl
theorem b_law_get {K : PySem.W.Frag} {mg : Str → Option Value} {base : Heap} (T : Txt K mg base) : Binds K T.fd_law_get ["_law_bag_here", "_law_most"] [] := FunD.bindsN T.F_law_get fun _ _ _ _ _ _ us hl => match us, hl with | [_, _], _ => rfl
theorem b_law_pick {K : PySem.W.Frag} {mg : Str → Option Value} {base : Heap} (T : Txt K mg base) : Binds K T.fd_law_pick ["_law_bag_here", "_law_some"] [] := FunD.bindsN T.F_law_pick fun _ _ _ _ _ _ us hl => match us, hl with | [_, _], _ => rfl
theorem b_law_all_names {K : PySem.W.Frag} {mg : Str → Option Value} {base : Heap} (T : Txt K mg base) : Binds K T.fd_law_all_names ["_law_state"] [] := FunD.bindsN T.F_law_all_names fun _ _ _ _ _ _ us hl => match us, hl with | [_], _ => rfl
theorem b_law_order {K : PySem.W.Frag} {mg : Str → Option Value} {base : Heap} (T : Txt K mg base) : Binds K T.fd_law_order ["_law_state", "_law_nest"] [] := FunD.bindsN T.F_law_order fun _ _ _ _ _ _ us hl => match us, hl with | [_, _], _ => rfl
theorem b_law_inside {K : PySem.W.Frag} {mg : Str → Option Value} {base : Heap} (T : Txt K mg base) : Binds K T.fd_law_inside ["_law_state", "_law_name"] [] := FunD.bindsN T.F_law_inside fun _ _ _ _ _ _ us hl => match us, hl with | [_, _], _ => rfl
theorem b_law_weigh {K : PySem.W.Frag} {mg : Str → Option Value} {base : Heap} (T : Txt K mg base) : Binds K T.fd_law_weigh ["_law_state", "_law_name"] [] := FunD.bindsN T.F_law_weigh fun _ _ _ _ _ _ us hl => match us, hl with | [_, _], _ => rfl
theorem b_law_boxes_in {K : PySem.W.Frag} {mg : Str → Option Value} {base : Heap} (T : Txt K mg base) : Binds K T.fd_law_boxes_in ["_law_state", "_law_nest", "_law_box"] [] := FunD.bindsN T.F_law_boxes_in fun _ _ _ _ _ _ us hl => match us, hl with | [_, _, _], _ => rfl
theorem b_law_boxes {K : PySem.W.Frag} {mg : Str → Option Value} {base : Heap} (T : Txt K mg base) : Binds K T.fd_law_boxes ["_law_state"] [] := FunD.bindsN T.F_law_boxes fun _ _ _ _ _ _ us hl => match us, hl with | [_], _ => rfl
theorem b_law_same {K : PySem.W.Frag} {mg : Str → Option Value} {base : Heap} (T : Txt K mg base) : Binds K T.fd_law_same ["_law_found", "_law_due"] [] := FunD.bindsN T.F_law_same fun _ _ _ _ _ _ us hl => match us, hl with | [_, _], _ => rfl
theorem b_House___len__ {K : PySem.W.Frag} {mg : Str → Option Value} {base : Heap} (T : Txt K mg base) : Binds K T.fd_House___len__ ["self"] [] := FunD.bindsN T.F_House___len__ fun _ _ _ _ _ _ us hl => match us, hl with | [_], _ => rfl
theorem b_House_names {K : PySem.W.Frag} {mg : Str → Option Value} {base : Heap} (T : Txt K mg base) : Binds K T.fd_House_names ["self"] [] := FunD.bindsN T.F_House_names fun _ _ _ _ _ _ us hl => match us, hl with | [_], _ => rfl
theorem b_House_size {K : PySem.W.Frag} {mg : Str → Option Value} {base : Heap} (T : Txt K mg base) : Binds K T.fd_House_size ["self"] [] := FunD.bindsN T.F_House_size fun _ _ _ _ _ _ us hl => match us, hl with | [_], _ => rfl
theorem b_House_bound {K : PySem.W.Frag} {mg : Str → Option Value} {base : Heap} (T : Txt K mg base) : Binds K T.fd_House_bound ["self"] [] := FunD.bindsN T.F_House_bound fun _ _ _ _ _ _ us hl => match us, hl with | [_], _ => rfl
theorem b_Stand_known {K : PySem.W.Frag} {mg : Str → Option Value} {base : Heap} (T : Txt K mg base) : Binds K T.fd_Stand_known ["self", "name"] [] := FunD.bindsN T.F_Stand_known fun _ _ _ _ _ _ us hl => match us, hl with | [_, _], _ => rfl
theorem b_need_known {K : PySem.W.Frag} {mg : Str → Option Value} {base : Heap} (T : Txt K mg base) : Binds K T.fd_need_known ["stand", "name"] [] := FunD.bindsN T.F_need_known fun _ _ _ _ _ _ us hl => match us, hl with | [_, _], _ => rfl
theorem b_House_need_any {K : PySem.W.Frag} {mg : Str → Option Value} {base : Heap} (T : Txt K mg base) : Binds K T.fd_House_need_any ["self", "name"] [] := FunD.bindsN T.F_House_need_any fun _ _ _ _ _ _ us hl => match us, hl with | [_, _], _ => rfl
theorem b_House_weight {K : PySem.W.Frag} {mg : Str → Option Value} {base : Heap} (T : Txt K mg base) : Binds K T.fd_House_weight ["self", "name"] [] := FunD.bindsN T.F_House_weight fun _ _ _ _ _ _ us hl => match us, hl with | [_, _], _ => rfl
theorem b_Stand_is_nest {K : PySem.W.Frag} {mg : Str → Option Value} {base : Heap} (T : Txt K mg base) : Binds K T.fd_Stand_is_nest ["self", "name"] [] := FunD.bindsN T.F_Stand_is_nest fun _ _ _ _ _ _ us hl => match us, hl with | [_, _], _ => rfl
theorem b_need_nest {K : PySem.W.Frag} {mg : Str → Option Value} {base : Heap} (T : Txt K mg base) : Binds K T.fd_need_nest ["stand", "nest"] [] := FunD.bindsN T.F_need_nest fun _ _ _ _ _ _ us hl => match us, hl with | [_, _], _ => rfl
theorem b_House_side {K : PySem.W.Frag} {mg : Str → Option Value} {base : Heap} (T : Txt K mg base) : Binds K T.fd_House_side ["self", "nest"] [] := FunD.bindsN T.F_House_side fun _ _ _ _ _ _ us hl => match us, hl with | [_, _], _ => rfl
theorem b_House_children {K : PySem.W.Frag} {mg : Str → Option Value} {base : Heap} (T : Txt K mg base) : Binds K T.fd_House_children ["self", "nest"] [] := FunD.bindsN T.F_House_children fun _ _ _ _ _ _ us hl => match us, hl with | [_, _], _ => rfl
theorem b_House_rows {K : PySem.W.Frag} {mg : Str → Option Value} {base : Heap} (T : Txt K mg base) : Binds K T.fd_House_rows ["self", "nest"] [] := FunD.bindsN T.F_House_rows fun _ _ _ _ _ _ us hl => match us, hl with | [_, _], _ => rfl
theorem b_House_box {K : PySem.W.Frag} {mg : Str → Option Value} {base : Heap} (T : Txt K mg base) : Binds K T.fd_House_box ["self", "name"] [] := FunD.bindsN T.F_House_box fun _ _ _ _ _ _ us hl => match us, hl with | [_, _], _ => rfl
theorem b_law_right {K : PySem.W.Frag} {mg : Str → Option Value} {base : Heap} (T : Txt K mg base) : Binds K T.fd_law_right ["_law_house", "_law_state"] [] := FunD.bindsN T.F_law_right fun _ _ _ _ _ _ us hl => match us, hl with | [_, _], _ => rfl
theorem b_law_gcd {K : PySem.W.Frag} {mg : Str → Option Value} {base : Heap} (T : Txt K mg base) : Binds K T.fd_law_gcd ["_law_one", "_law_other"] [] := FunD.bindsN T.F_law_gcd fun _ _ _ _ _ _ us hl => match us, hl with | [_, _], _ => rfl
theorem b_law_part {K : PySem.W.Frag} {mg : Str → Option Value} {base : Heap} (T : Txt K mg base) : Binds K T.fd_law_part ["_law_above", "_law_below"] [] := FunD.bindsN T.F_law_part fun _ _ _ _ _ _ us hl => match us, hl with | [_, _], _ => rfl
theorem b_law_bound {K : PySem.W.Frag} {mg : Str → Option Value} {base : Heap} (T : Txt K mg base) : Binds K T.fd_law_bound ["_law_bag_here"] [] := FunD.bindsN T.F_law_bound fun _ _ _ _ _ _ us hl => match us, hl with | [_], _ => rfl
theorem b_law_lean {K : PySem.W.Frag} {mg : Str → Option Value} {base : Heap} (T : Txt K mg base) : Binds K T.fd_law_lean ["_law_bag_here"] [] := FunD.bindsN T.F_law_lean fun _ _ _ _ _ _ us hl => match us, hl with | [_], _ => rfl
theorem b_law_ask {K : PySem.W.Frag} {mg : Str → Option Value} {base : Heap} (T : Txt K mg base) : Binds K T.fd_law_ask ["_law_ask_here"] [] := FunD.bindsN T.F_law_ask fun _ _ _ _ _ _ us hl => match us, hl with | [_], _ => rfl
theorem b_law_why {K : PySem.W.Frag} {mg : Str → Option Value} {base : Heap} (T : Txt K mg base) : Binds K T.fd_law_why ["_law_ask_here"] [] := FunD.bindsN T.F_law_why fun _ _ _ _ _ _ us hl => match us, hl with | [_], _ => rfl
theorem b_law_whole {K : PySem.W.Frag} {mg : Str → Option Value} {base : Heap} (T : Txt K mg base) : Binds K T.fd_law_whole ["_law_thing_now"] [] := FunD.bindsN T.F_law_whole fun _ _ _ _ _ _ us hl => match us, hl with | [_], _ => rfl
theorem b_law_size_ok {K : PySem.W.Frag} {mg : Str → Option Value} {base : Heap} (T : Txt K mg base) : Binds K T.fd_law_size_ok ["_law_thing_now", "_law_most"] [] := FunD.bindsN T.F_law_size_ok fun _ _ _ _ _ _ us hl => match us, hl with | [_, _], _ => rfl
theorem b_law_new {K : PySem.W.Frag} {mg : Str → Option Value} {base : Heap} (T : Txt K mg base) : Binds K T.fd_law_new ["_law_wide", "_law_high", "_law_bound_now", "_law_lean_here"] [] := FunD.bindsN T.F_law_new fun _ _ _ _ _ _ us hl => match us, hl with | [_, _, _, _], _ => rfl
theorem b_House_stand_so {K : PySem.W.Frag} {mg : Str → Option Value} {base : Heap} (T : Txt K mg base) : Binds K T.fd_House_stand_so ["self", "stand"] [] := FunD.bindsN T.F_House_stand_so fun _ _ _ _ _ _ us hl => match us, hl with | [_, _], _ => rfl
theorem b_House_undo {K : PySem.W.Frag} {mg : Str → Option Value} {base : Heap} (T : Txt K mg base) : Binds K T.fd_House_undo ["self"] [] := FunD.bindsN T.F_House_undo fun _ _ _ _ _ _ us hl => match us, hl with | [_], _ => rfl
theorem b_House_redo {K : PySem.W.Frag} {mg : Str → Option Value} {base : Heap} (T : Txt K mg base) : Binds K T.fd_House_redo ["self"] [] := FunD.bindsN T.F_House_redo fun _ _ _ _ _ _ us hl => match us, hl with | [_], _ => rfl
theorem b_law_is_part {K : PySem.W.Frag} {mg : Str → Option Value} {base : Heap} (T : Txt K mg base) : Binds K T.fd_law_is_part ["_law_thing_now"] [] := FunD.bindsN T.F_law_is_part fun _ _ _ _ _ _ us hl => match us, hl with | [_], _ => rfl
theorem b_law_is_bound {K : PySem.W.Frag} {mg : Str → Option Value} {base : Heap} (T : Txt K mg base) : Binds K T.fd_law_is_bound ["_law_thing_now"] [] := FunD.bindsN T.F_law_is_bound fun _ _ _ _ _ _ us hl => match us, hl with | [_], _ => rfl
theorem bg_House___init___bound_side {K : PySem.W.Frag} {mg : Str → Option Value} {base : Heap} (T : Txt K mg base) : ∃ mv : List Value, KBn K T.fd_House___init__ ["self", "wide", "high", "bound", "side"] 3 ["bound", "side"] (fun us ws => us ++ pickL [0, 1] (mv ++ ws)) (fun vs zs => vs ++ pickL [0, 1] ([] ++ zs)) := FunD.kbinds0 (ps := ["self", "wide", "high", "bound", "side"]) T.F_House___init__ 3 ["bound", "side"] [] (fun us mv ws => us ++ pickL [0, 1] (mv ++ ws)) (by intro z; cases z) (by simp) (fun a b c => a.append (Vals.pick (b.append c) _)) fun D doc pm an cdv ct us mv ws h1 h2 h3 => match us, mv, ws, h1, h2, h3 with | [_, _, _], [], [_, _], _, _, _ => rfl in
#guard_msgs (pass all) in open Nat
theorem bg_House___init___side_bound {K : PySem.W.Frag} {mg : Str → Option Value} {base : Heap} (T : Txt K mg base) : ∃ mv : List Value, KBn K T.fd_House___init__ ["self", "wide", "high", "bound", "side"] 3 ["side", "bound"] (fun us ws => us ++ pickL [1, 0] (mv ++ ws)) (fun vs zs => vs ++ pickL [1, 0] ([] ++ zs)) := FunD.kbinds0 (ps := ["self", "wide", "high", "bound", "side"]) T.F_House___init__ 3 ["side", "bound"] [] (fun us mv ws => us ++ pickL [1, 0] (mv ++ ws)) (by intro z; cases z) (by simp) (fun a b c => a.append (Vals.pick (b.append c) _)) fun D doc pm an cdv ct us mv ws h1 h2 h3 => match us, mv, ws, h1, h2, h3 with | [_, _, _], [], [_, _], _, _, _ => rfl in
#guard_msgs (pass all) in open Nat
abbrev tbD (K : PySem.W.Frag) : List (Addr × Str) := [(tabA K "law", "law.<locals>.<lambda>")]
def sp_law (K : PySem.W.Frag) : DSp := sp_lawT (tbls (tbD K))
def sp_Stand___init__ : DSp := spStore "Stand" 4 gStand
theorem sc_Stand___init__ : FnScope ["self", "measures", "most", "weighed", "held"] ["self", "measures", "most", "weighed", "held"] (defScope s_Stand___init__) := ⟨rfl, rfl, rfl, by decide +kernel, rfl, by decide +kernel, by decide +kernel⟩
theorem ok_Stand___init__ {P : Program} {w : World} {K : PySem.W.Frag} {mg : Str → Option Value} {base : Heap} (T : Txt K mg base) : FnOk P w K mg base (L2.CX P w) 1 (He.ma K (He.ga K "Stand") "__init__") T.fd_Stand___init__ ["self", "measures", "most", "weighed", "held"] (spL K 5 sp_Stand___init__) := by
  apply ok_def (k := 0) T.F_Stand___init__ sc_Stand___init__
  case hb =>
    intro cdv A outer s H E hr
    exact (dss_cons (ds_fld (c := "Stand") T.cl_Stand T.na_Stand_measures (d_var 1) (d_var 0))
      (dss_cons (ds_fld (c := "Stand") T.cl_Stand T.na_Stand_most (d_var 2) (d_var 0))
      (dss_cons (ds_fld (c := "Stand") T.cl_Stand T.na_Stand_weighed (d_var 3) (d_var 0))
      (dss_one (ds_fld (c := "Stand") T.cl_Stand T.na_Stand_held (d_var 4) (d_var 0))))))
  case hsp =>
    skip
    rintro ds cs Q Z ⟨x, dx, cs0, es, rfl, hl, rfl, h⟩ _
    obtain ⟨a, b, c, d, rfl⟩ : ∃ a b c d, es = [a, b, c, d] := match es, hl with | [a, b, c, d], _ => ⟨a, b, c, d, rfl⟩
    show (_ : WS) (finD Q Z) [some _, some _, some _, some _, some _] _
    walk_at "GO"
    refine r_setf look_hd (show _ < _ from by first | exact (show 0 < 1000 by decide) | exact (show 1 < 1000 by decide) | exact (show 2 < 1000 by decide) | exact (show 3 < 1000 by decide)) ?_
    rw [put_hd]
    walk_at "GO"
    refine r_setf look_hd (show _ < _ from by first | exact (show 0 < 1000 by decide) | exact (show 1 < 1000 by decide) | exact (show 2 < 1000 by decide) | exact (show 3 < 1000 by decide)) ?_
    rw [put_hd]
    walk_at "GO"
    refine r_setf look_hd (show _ < _ from by first | exact (show 0 < 1000 by decide) | exact (show 1 < 1000 by decide) | exact (show 2 < 1000 by decide) | exact (show 3 < 1000 by decide)) ?_
    rw [put_hd]
    walk_at "GO"
    refine r_setf look_hd (show _ < _ from by first | exact (show 0 < 1000 by decide) | exact (show 1 < 1000 by decide) | exact (show 2 < 1000 by decide) | exact (show 3 < 1000 by decide)) ?_
    rw [put_hd]
    walk_at "GO"
    exact h in
#guard_msgs (pass all) in open Nat
def sp_is_whole : DSp := fun ds cs P _ => ∃ d, ds = [d] ∧ knD d = true ∧ P (.bl (wholeD d)) cs
theorem r_is_whole {i : Int} {cs : Cs} {P : DP} {Z : XZ} (h : P (.bl true) cs) : sp_is_whole [.int i] cs P Z := ⟨.int i, rfl, rfl, h⟩
theorem sc_is_whole : FnScope ["thing"] ["thing"] (defScope s_is_whole) := ⟨rfl, rfl, rfl, by decide +kernel, rfl, by decide +kernel, by decide +kernel⟩
theorem ok_is_whole {P : Program} {w : World} {K : PySem.W.Frag} {mg : Str → Option Value} {base : Heap} (T : Txt K mg base) : FnOk P w K mg base (L2.CX P w) 1 (He.ga K "is_whole") T.fd_is_whole ["thing"] (spL K 1 sp_is_whole) := by
  apply ok_def (k := 0) T.F_is_whole sc_is_whole
  case hb =>
    intro cdv A outer s H E hr
    exact (dss_one (ds_ret (d_and (d_callB call_isi adq_isi rfl T.n_isinstance (by decide +kernel) (da_cons (d_var 0) (da_cons (d_ty (n := "int") rfl T.n_int (by decide +kernel)) da_nil))) (d_one (d_not (d_callB call_isi adq_isi rfl T.n_isinstance (by decide +kernel) (da_cons (d_var 0) (da_cons (d_ty (n := "bool") rfl T.n_bool (by decide +kernel)) da_nil))))))))
  case hsp =>
    skip
    rintro ds cs Q Z ⟨d, rfl, hk, h⟩ _
    show (_ : WS) (finD Q Z) [some _] _
    cases d <;> first
      | (simp [knD] at hk; done)
      | (walk_at "go"; exact h) in
#guard_msgs (pass all) in open Nat
local macro_rules | `(tactic| walk_at "cl") => `(tactic| (first | (with_reducible refine r_is_whole ?_)))
def sp_is_size : DSp := fun ds cs P _ => ∃ (d : D) (m : Int), ds = [d, .int m] ∧ knD d = true ∧ P (.bl (szD d m)) cs
theorem r_is_size {a m : Int} {cs : Cs} {P : DP} {Z : XZ} (h : P (.bl (decide (1 ≤ a ∧ a ≤ m))) cs) : sp_is_size [.int a, .int m] cs P Z := ⟨.int a, m, rfl, rfl, h⟩
theorem r_is_sizeD {d : D} {m : Int} {cs : Cs} {P : DP} {Z : XZ} (hk : knD d = true) (h : P (.bl (szD d m)) cs) : sp_is_size [d, .int m] cs P Z := ⟨d, m, rfl, hk, h⟩
theorem sc_is_size : FnScope ["thing", "most"] ["thing", "most"] (defScope s_is_size) := ⟨rfl, rfl, rfl, by decide +kernel, rfl, by decide +kernel, by decide +kernel⟩
theorem ok_is_size {P : Program} {w : World} {K : PySem.W.Frag} {mg : Str → Option Value} {base : Heap} (T : Txt K mg base) : FnOk P w K mg base (L2.CX P w) 2 (He.ga K "is_size") T.fd_is_size ["thing", "most"] (spL K 2 sp_is_size) := by
  apply ok_def (k := 1) T.F_is_size sc_is_size
  case hb =>
    intro cdv A outer s H E hr
    exact (dss_one (ds_ret (d_and (d_callN (ok_is_whole T) (hr.mono (by decide)) rfl T.g_is_whole T.F_is_whole.kp (b_is_whole T) takesD (da_cons (d_var 0) da_nil)) (d_one (d_chain_le_le d_int (d_var 0) (d_var 1))))))
  case hsp =>
    skip
    rintro ds cs Q Z ⟨d, m, rfl, hk, h⟩ _
    show (_ : WS) (finD Q Z) [some _, some _] _
    walk_at "GO"
    refine ⟨d, rfl, hk, ?_⟩
    by_cases hi : ∃ a, d = .int a
    · obtain ⟨a, rfl⟩ := hi
      rw [show wholeD (.int a) = true from rfl]
      walk_at "GO"
      by_cases h1 : 1 ≤ a
      · refine r_pos h1 ?_
        walk_at "GO"
        rw [show decide (a ≤ m) = decide (1 ≤ a ∧ a ≤ m) from decide_eq_decide.mpr ⟨fun z => ⟨h1, z⟩, fun z => z.2⟩]
        exact h
      · refine r_neg_ h1 ?_
        rw [show szD (.int a) m = false from decide_eq_false (fun z : 1 ≤ a ∧ a ≤ m => h1 z.1)] at h
        exact h
    · have e1 : wholeD d = false := by cases d <;> first | rfl | exact absurd ⟨_, rfl⟩ hi
      have e2 : szD d m = false := by cases d <;> first | rfl | exact absurd ⟨_, rfl⟩ hi
      rw [e1]
      rw [e2] at h
      walk_at "GO"
      exact h in
#guard_msgs (pass all) in open Nat
local macro_rules | `(tactic| walk_at "cl") => `(tactic| (first | with_reducible refine r_is_size ?_))
def sp_need_measures : DSp := fun ds cs P Z => ∃ (a b : D), ds = [a, b] ∧ knD a = true ∧ knD b = true ∧ ((szD a 1000 && szD b 1000) = true → P .non cs) ∧ ((szD a 1000 && szD b 1000) = false → Z (exn "BadBox") cs)
theorem sc_need_measures : FnScope ["wide", "high"] ["wide", "high"] (defScope s_need_measures) := ⟨rfl, rfl, rfl, by decide +kernel, rfl, by decide +kernel, by decide +kernel⟩
theorem ok_need_measures {P : Program} {w : World} {K : PySem.W.Frag} {mg : Str → Option Value} {base : Heap} (T : Txt K mg base) : FnOk P w K mg base (L2.CX P w) 4 (He.ga K "need_measures") T.fd_need_measures ["wide", "high"] (spL K 2 sp_need_measures) := by
  apply ok_def (k := 3) T.F_need_measures sc_need_measures
  case hb =>
    intro cdv A outer s H E hr
    exact (dss_one (ds_if (dt_w (dw_or (dt_not (dt_val (d_callN (ok_is_size T) (hr.mono (by decide)) rfl T.g_is_size T.F_is_size.kp (b_is_size T) takesD (da_cons (d_var 0) (da_cons (d_gint rfl T.c_MOST_SIZE) da_nil))))) (dw_or1 (dt_not (dt_val (d_callN (ok_is_size T) (hr.mono (by decide)) rfl T.g_is_size T.F_is_size.kp (b_is_size T) takesD (da_cons (d_var 1) (da_cons (d_gint rfl T.c_MOST_SIZE) da_nil)))))))) (dss_one (ds_raise0 rfl takesD T.x_BadBox.x T.x_BadBox.ini T.x_BadBox.ty (ok_i_BadBox T) (hr.mono (by decide)) (b_i_BadBox T) .nil (fun _ => .nil) rfl fld0 rfl T.g_BadBox)) dss_nil))
  case hsp =>
    skip
    rintro ds cs Q Z ⟨a, b, rfl, ka, kb, h1, h2⟩ _
    show (_ : WS) (finD Q Z) [some _, some _] _
    walk_at "GO"
    refine r_is_sizeD ka ?_
    cases ea : szD a 1000 with
    | true =>
      rw [ea] at h1 h2
      walk_at "GO"
      refine r_is_sizeD kb ?_
      cases eb : szD b 1000 with
      | true =>
        rw [eb] at h1 h2
        walk_at "GO"
        exact h1 rfl
      | false =>
        rw [eb] at h1 h2
        walk_at "GO"
        exact h2 rfl
    | false =>
      rw [ea] at h1 h2
      walk_at "GO"
      exact h2 rfl in
#guard_msgs (pass all) in open Nat
def sp_common : DSp := fun ds cs P _ => ∃ a b : Nat, ds = [.int (a : Int), .int (b : Int)] ∧ P (.int (Nat.gcd a b : Int)) cs
theorem sc_common : FnScope ["one", "other"] ["one", "other"] (defScope s_common) := ⟨rfl, rfl, rfl, by decide +kernel, rfl, by decide +kernel, by decide +kernel⟩
theorem ok_common {P : Program} {w : World} {K : PySem.W.Frag} {mg : Str → Option Value} {base : Heap} (T : Txt K mg base) : FnOk P w K mg base (L2.CX P w) 1 (He.ga K "common") T.fd_common ["one", "other"] (spL K 2 sp_common) := by
  apply ok_def (k := 0) T.F_common sc_common
  case hb =>
    intro cdv A outer s H E hr
    exact (dss_cons (ds_while passD (dt_ne hr.units (d_var 1) d_int) (dss_one (ds_par (i := 0) (j := 1) rfl sc_common.nd rfl rfl (by decide) rfl rfl (da_cons (d_var 1) (da_cons (d_mod (d_var 0) (d_var 1)) da_nil)))))
      (dss_one (ds_ret (d_var 0))))
  case hsp =>
    skip
    rintro ds cs Q Z ⟨a, b, rfl, h⟩ _
    show (_ : WS) (finD Q Z) [some _, some _] _
    walk_at "go"
    refine r_while (fun m ρ cs' => ∃ a' b' : Nat, ρ = [some (.int (a' : Int)), some (.int (b' : Int))] ∧ m = b' ∧ cs' = cs ∧ Nat.gcd a' b' = Nat.gcd a b) ⟨b, a, b, rfl, rfl, rfl, rfl⟩ ?_
    rintro m ρ cs' N ⟨a', b', rfl, hm, rfl, hg⟩ hN
    walk_at "go"
    refine ⟨fun hk => ?_, fun hk => ?_⟩
    · have hb : (b' : Int) ≠ 0 := ndecT hk
      have hb0 : (0 : Int) < b' := by omega
      walk_at "go"
      refine hN (a' % b') _ _ (by rw [hm]; exact Nat.mod_lt _ (by omega)) ⟨b', a' % b', rfl, rfl, rfl, ?_⟩
      rw [← hg, Nat.gcd_comm b', ← Nat.gcd_rec, Nat.gcd_comm]
    · have hb : (b' : Int) = 0 := ndecF hk
      have hb0 : b' = 0 := by omega
      rw [hb0]
      walk_at "go"
      rw [← hg, hb0, Nat.gcd_zero_right] at h
      exact h in
#guard_msgs (pass all) in open Nat
def sp_is_part : DSp := fun ds cs P _ => ∃ d, ds = [d] ∧ knD d = true ∧ P (.bl (partD d)) cs
theorem sc_is_part : FnScope ["thing", "above", "below"] ["thing"] (defScope s_is_part) := ⟨rfl, rfl, rfl, by decide +kernel, rfl, by decide +kernel, by decide +kernel⟩
theorem ok_is_part {P : Program} {w : World} {K : PySem.W.Frag} {mg : Str → Option Value} {base : Heap} (T : Txt K mg base) : FnOk P w K mg base (L2.CX P w) 2 (He.ga K "is_part") T.fd_is_part ["thing"] (spL K 1 sp_is_part) := by
  apply ok_def (k := 1) T.F_is_part sc_is_part
  case hb =>
    intro cdv A outer s H E hr
    exact (dss_cons (ds_if (dt_w (dw_or (dt_not (dt_val (d_callB call_isi adq_isi rfl T.n_isinstance (by decide +kernel) (da_cons (d_var 0) (da_cons (d_ty (n := "tuple") rfl T.n_tuple (by decide +kernel)) da_nil))))) (dw_or1 (dt_ne hr.units (d_callB call_len_seq adq_len rfl T.n_len (by decide +kernel) (da_cons (d_var 0) da_nil)) d_int)))) (dss_one (ds_ret d_bl)) dss_nil)
      (dss_cons (ds_asg (d_var 0) (dg_tup (n := 2) rfl (dgs_cons (dg_name (i := 1) sc_is_part.nd rfl (Or.inl rfl)) (dgs_cons (dg_name (i := 2) sc_is_part.nd rfl (Or.inl rfl)) dgs_nil))))
      (dss_one (ds_ret (d_and (d_callN (ok_is_whole T) (hr.mono (by decide)) rfl T.g_is_whole T.F_is_whole.kp (b_is_whole T) takesD (da_cons (d_var 1) da_nil)) (d_and (d_callN (ok_is_whole T) (hr.mono (by decide)) rfl T.g_is_whole T.F_is_whole.kp (b_is_whole T) takesD (da_cons (d_var 2) da_nil)) (d_and (d_gt (d_var 2) d_int) (d_one (d_eq hr.units (d_callN (ok_common T) (hr.mono (by decide)) rfl T.g_common T.F_common.kp (b_common T) takesD (da_cons (d_callB call_abs adq_abs rfl T.n_abs (by decide +kernel) (da_cons (d_var 1) da_nil)) (da_cons (d_var 2) da_nil))) d_int)))))))))
  case hsp =>
    skip
    rintro ds cs Q Z ⟨d, rfl, hk, h⟩ _
    show (_ : WS) (finD Q Z) [some _, none, none] _
    cases d <;> try first
      | (simp [knD] at hk; done)
      | (walk_at "go"; exact h)
    rename_i xs hlen
    by_cases hl : xs.length = 2
    case neg =>
      rw [partD_len hl] at h
      walk_at "go"
      refine ⟨fun hk2 => ?_, fun hk2 => absurd (show xs.length = 2 by have := ndecF hk2; omega) hl⟩
      walk_at "go"
      exact h
    case pos =>
      obtain ⟨x, y, rfl⟩ : ∃ x y, xs = [x, y] := by
        cases xs with
        | nil => cases hl
        | cons x xs => cases xs with
          | nil => cases hl
          | cons y xs => cases xs with
            | nil => exact ⟨x, y, rfl⟩
            | cons _ _ => simp at hl
      have kx : knD x = true := knL_mem (show knL [x, y] = true from hk) (by simp)
      have ky : knD y = true := knL_mem (show knL [x, y] = true from hk) (by simp)
      walk_at "go"
      refine ⟨fun hk2 => absurd hk2 (by simp), fun _ => ?_⟩
      walk_at "go"
      refine ⟨x, rfl, kx, ?_⟩
      by_cases hx : ∃ a, x = .int a
      case neg =>
        have e : wholeD x = false := by cases x <;> first | rfl | exact absurd ⟨_, rfl⟩ hx
        have e2 : partD (.tup [x, y]) = false := by unfold partD; split <;> first | rfl | (rename_i q; cases q; exact absurd ⟨_, rfl⟩ hx)
        rw [e]
        rw [e2] at h
        walk_at "go"
        exact h
      case pos =>
        obtain ⟨a, rfl⟩ := hx
        rw [show wholeD (.int a) = true from rfl]
        walk_at "go"
        refine ⟨y, rfl, ky, ?_⟩
        by_cases hy : ∃ b, y = .int b
        case neg =>
          have e : wholeD y = false := by cases y <;> first | rfl | exact absurd ⟨_, rfl⟩ hy
          have e2 : partD (.tup [.int a, y]) = false := by unfold partD; split <;> first | rfl | (rename_i q; cases q; exact absurd ⟨_, rfl⟩ hy)
          rw [e]
          rw [e2] at h
          walk_at "go"
          exact h
        case pos =>
          obtain ⟨b, rfl⟩ := hy
          rw [show wholeD (.int b) = true from rfl]
          walk_at "go"
          refine ⟨fun hb => ?_, fun hb => ?_⟩
          · have hb0 := decT hb
            have hn : b = (b.natAbs : Int) := by omega
            walk_at "go"
            rw [abs_nat]
            refine ⟨a.natAbs, b.natAbs, by rw [← hn], ?_⟩
            walk_at "go"
            have e : partD (.tup [.int a, .int b]) = decide ((Nat.gcd a.natAbs b.natAbs : Int) = 1) := by
              show (decide (0 < b) && decide (Nat.gcd a.natAbs b.natAbs = 1)) = _
              rw [decide_eq_true hb0, Bool.true_and]
              exact decide_eq_decide.mpr ⟨fun z => by omega, fun z => by omega⟩
            rw [e] at h
            exact h
          · have hb0 := decF hb
            have e : partD (.tup [.int a, .int b]) = false := by
              show (decide (0 < b) && decide (Nat.gcd a.natAbs b.natAbs = 1)) = _
              rw [decide_eq_false hb0, Bool.false_and]
            rw [e] at h
            walk_at "go"
            exact h in
#guard_msgs (pass all) in open Nat
def sp_is_bound : DSp := fun ds cs P _ => ∃ d : D, ds = [d] ∧ knD d = true ∧ P (.bl (hbD d)) cs
theorem sc_is_bound : FnScope ["thing"] ["thing"] (defScope s_is_bound) := ⟨rfl, rfl, rfl, by decide +kernel, rfl, by decide +kernel, by decide +kernel⟩
theorem ok_is_bound {P : Program} {w : World} {K : PySem.W.Frag} {mg : Str → Option Value} {base : Heap} (T : Txt K mg base) : FnOk P w K mg base (L2.CX P w) 3 (He.ga K "is_bound") T.fd_is_bound ["thing"] (spL K 1 sp_is_bound) := by
  apply ok_def (k := 2) T.F_is_bound sc_is_bound
  case hb =>
    intro cdv A outer s H E hr
    exact (dss_one (ds_ret (d_and (d_callN (ok_is_part T) (hr.mono (by decide)) rfl T.g_is_part T.F_is_part.kp (b_is_part T) takesD (da_cons (d_var 0) da_nil)) (d_and (d_ge (d_sub_ix (d_var 0) d_int) (d_sub_ix (d_var 0) d_int)) (d_one (d_lt (d_sub_ix (d_var 0) d_int) (d_gint rfl T.c_GREATEST)))))))
  case hsp =>
    skip
    rintro ds cs Q Z ⟨d, rfl, hk, h⟩ _
    show (_ : WS) (finD Q Z) [some _] _
    walk_at "GO"
    refine ⟨_, rfl, hk, ?_⟩
    cases hb : partD d with
    | false =>
      have e : hbD d = false := by
        cases hc : hbD d with
        | false => rfl
        | true =>
          obtain ⟨r, e, _⟩ := hbD_inv hc
          rw [e, partD_dR] at hb
          cases hb
      rw [e] at h
      walk_at "GO"
      exact h
    | true =>
      obtain ⟨r, rfl⟩ := partD_inv hb
      rw [hbD_dR] at h
      have e : (1 ≤ r) ↔ (r.den : Int) ≤ r.num := by rw [Rat.le_iff]; simp
      unfold dR
      walk_at "GO"
      by_cases h1 : (r.den : Int) ≤ r.num
      · refine ⟨fun _ => ?_, fun q => absurd h1 (ndecF (by simpa using q))⟩
        rw [decide_eq_true (e.mpr h1), Bool.true_and] at h
        walk_at "GO"
        exact h
      · refine ⟨fun q => absurd (decT q) h1, fun _ => ?_⟩
        rw [decide_eq_false (fun z => h1 (e.mp z)), Bool.false_and] at h
        exact h in
#guard_msgs (pass all) in open Nat
def sp_need_bound : DSp := fun ds cs P Z => ∃ d : D, ds = [d] ∧ knD d = true ∧ (hbD d = true → P .non cs) ∧ (hbD d = false → Z (exn "BadBound") cs)
theorem sc_need_bound : FnScope ["bound"] ["bound"] (defScope s_need_bound) := ⟨rfl, rfl, rfl, by decide +kernel, rfl, by decide +kernel, by decide +kernel⟩
theorem ok_need_bound {P : Program} {w : World} {K : PySem.W.Frag} {mg : Str → Option Value} {base : Heap} (T : Txt K mg base) : FnOk P w K mg base (L2.CX P w) 4 (He.ga K "need_bound") T.fd_need_bound ["bound"] (spL K 1 sp_need_bound) := by
  apply ok_def (k := 3) T.F_need_bound sc_need_bound
  case hb =>
    intro cdv A outer s H E hr
    exact (dss_one (ds_if (dt_not (dt_val (d_callN (ok_is_bound T) (hr.mono (by decide)) rfl T.g_is_bound T.F_is_bound.kp (b_is_bound T) takesD (da_cons (d_var 0) da_nil)))) (dss_one (ds_raise0 rfl takesD T.x_BadBound.x T.x_BadBound.ini T.x_BadBound.ty (ok_i_BadBound T) (hr.mono (by decide)) (b_i_BadBound T) .nil (fun _ => .nil) rfl fld0 rfl T.g_BadBound)) dss_nil))
  case hsp =>
    skip
    rintro ds cs Q Z ⟨d, rfl, hk, h1, h2⟩ _
    show (_ : WS) (finD Q Z) [some _] _
    walk_at "GO"
    refine ⟨d, rfl, hk, ?_⟩
    cases hb : hbD d with
    | true =>
      walk_at "GO"
      exact h1 hb
    | false =>
      walk_at "GO"
      exact h2 hb in
#guard_msgs (pass all) in open Nat
def sp_need_side : DSp := fun ds cs P Z => ∃ d, ds = [d] ∧ plD 20 d = true ∧ (sideB d = true → P .non cs) ∧ (sideB d = false → Z (exn "BadSide") cs)
theorem r_need_side {dn : Bool} {cs : Cs} {P : DP} {Z : XZ} (h : P .non cs) : sp_need_side [sideD dn] cs P Z := ⟨_, rfl, rfl, fun _ => h, fun z => by rw [sideB_side] at z; cases z⟩
theorem r_need_sideX {d : D} {cs : Cs} {P : DP} {Z : XZ} (hk : plD 20 d = true) (h1 : sideB d = true → P .non cs) (h2 : sideB d = false → Z (exn "BadSide") cs) : sp_need_side [d] cs P Z := ⟨d, rfl, hk, h1, h2⟩
theorem sc_need_side : FnScope ["side"] ["side"] (defScope s_need_side) := ⟨rfl, rfl, rfl, by decide +kernel, rfl, by decide +kernel, by decide +kernel⟩
theorem ok_need_side {P : Program} {w : World} {K : PySem.W.Frag} {mg : Str → Option Value} {base : Heap} (T : Txt K mg base) : FnOk P w K mg base (L2.CX P w) 4 (He.ga K "need_side") T.fd_need_side ["side"] (spL K 1 sp_need_side) := by
  apply ok_def (k := 3) T.F_need_side sc_need_side
  case hb =>
    intro cdv A outer s H E hr
    exact (dss_one (ds_if (dt_notinQ hr.units (d_var 0) (d_tup (da_cons (d_gstr rfl T.c_DOWN) (da_cons (d_gstr rfl T.c_ACROSS) da_nil)))) (dss_one (ds_raise0 rfl takesD T.x_BadSide.x T.x_BadSide.ini T.x_BadSide.ty (ok_i_BadSide T) (hr.mono (by decide)) (b_i_BadSide T) .nil (fun _ => .nil) rfl fld0 rfl T.g_BadSide)) dss_nil))
  case hsp =>
    skip
    rintro ds cs Q Z ⟨d, rfl, hk, h1, h2⟩ _
    show (_ : WS) (finD Q Z) [some _] _
    walk_at "GO"
    refine r_notinQ rfl hk ?_
    cases hb : sideB d with
    | true =>
      rw [show ([D.str "down", D.str "across"].any fun z => eqD z d) = true from hb]
      walk_at "GO"
      exact h1 hb
    | false =>
      rw [show ([D.str "down", D.str "across"].any fun z => eqD z d) = false from hb]
      walk_at "GO"
      exact h2 hb in
#guard_msgs (pass all) in open Nat
local macro_rules | `(tactic| walk_at "cl") => `(tactic| (first | with_reducible refine r_need_side ?_))
def sp_Nest___init__ : DSp := spStore "Nest" 3 gNest
theorem sc_Nest___init__ : FnScope ["self", "side", "children", "rows"] ["self", "side", "children", "rows"] (defScope s_Nest___init__) := ⟨rfl, rfl, rfl, by decide +kernel, rfl, by decide +kernel, by decide +kernel⟩
theorem ok_Nest___init__ {P : Program} {w : World} {K : PySem.W.Frag} {mg : Str → Option Value} {base : Heap} (T : Txt K mg base) : FnOk P w K mg base (L2.CX P w) 1 (He.ma K (He.ga K "Nest") "__init__") T.fd_Nest___init__ ["self", "side", "children", "rows"] (spL K 4 sp_Nest___init__) := by
  apply ok_def (k := 0) T.F_Nest___init__ sc_Nest___init__
  case hb =>
    intro cdv A outer s H E hr
    exact (dss_cons (ds_fld (c := "Nest") T.cl_Nest T.na_Nest_facing (d_var 1) (d_var 0))
      (dss_cons (ds_fld (c := "Nest") T.cl_Nest T.na_Nest_inner (d_var 2) (d_var 0))
      (dss_one (ds_fld (c := "Nest") T.cl_Nest T.na_Nest_lines (d_var 3) (d_var 0)))))
  case hsp =>
    skip
    rintro ds cs Q Z ⟨x, dx, cs0, es, rfl, hl, rfl, h⟩ _
    obtain ⟨a, b, c, rfl⟩ : ∃ a b c, es = [a, b, c] := match es, hl with | [a, b, c], _ => ⟨a, b, c, rfl⟩
    show (_ : WS) (finD Q Z) [some _, some _, some _, some _] _
    walk_at "GO"
    refine r_setf look_hd (show _ < _ from by first | exact (show 0 < 1000 by decide) | exact (show 1 < 1000 by decide) | exact (show 2 < 1000 by decide) | exact (show 3 < 1000 by decide)) ?_
    rw [put_hd]
    walk_at "GO"
    refine r_setf look_hd (show _ < _ from by first | exact (show 0 < 1000 by decide) | exact (show 1 < 1000 by decide) | exact (show 2 < 1000 by decide) | exact (show 3 < 1000 by decide)) ?_
    rw [put_hd]
    walk_at "GO"
    refine r_setf look_hd (show _ < _ from by first | exact (show 0 < 1000 by decide) | exact (show 1 < 1000 by decide) | exact (show 2 < 1000 by decide) | exact (show 3 < 1000 by decide)) ?_
    rw [put_hd]
    walk_at "GO"
    exact h in
#guard_msgs (pass all) in open Nat
def sp_House___init__ : DSp := fun ds cs P Z => ∃ (x dx : Addr) (cs0 : Cs) (a b bd sd : D), ds = [.opq (.ref x), a, b, bd, sd] ∧ cs = (x, .ins "House" x dx []) :: cs0 ∧ x ∉ adr cs0 ∧ knD a = true ∧ knD b = true ∧ knD bd = true ∧ plD 20 sd = true ∧
  Due (whyNew a b bd sd) (∀ (w h : Int) (r : Rat) (dn : Bool) cs', a = .int w → b = .int h → bd = dR r → sd = sideD dn → (1 ≤ w ∧ w ≤ 1000) → (1 ≤ h ∧ h ≤ 1000) → (1 ≤ r ∧ r.num < 10 ^ 30) → HouseIn x (newS w h r dn) [] [] cs' → (∀ q m, look q cs0 = some m → look q cs' = some m) → (∀ q ∈ owns x cs', look q cs0 = none) → P .non cs') (fun y => ∀ cs', (∀ q m, look q cs0 = some m → look q cs' = some m) → Z (exn y) cs')
theorem r_House_new {x dx : Addr} {w h : Int} {r : Rat} {dn : Bool} {cs0 : Cs} {P : DP} {Z : XZ} (hx : x ∉ adr cs0) (hw : 1 ≤ w ∧ w ≤ 1000) (hh : 1 ≤ h ∧ h ≤ 1000) (hr : 1 ≤ r ∧ r.num < 10 ^ 30) (z : ∀ cs', HouseIn x (newS w h r dn) [] [] cs' → (∀ q m, look q cs0 = some m → look q cs' = some m) → (∀ q ∈ owns x cs', look q cs0 = none) → P .non cs') : sp_House___init__ [.opq (.ref x), .int w, .int h, dR r, sideD dn] ((x, .ins "House" x dx []) :: cs0) P Z :=
  ⟨x, dx, cs0, _, _, _, _, rfl, rfl, hx, rfl, rfl, rfl, by cases dn <;> rfl, .of (whyNew_ok hw hh hr) fun w' h' r' dn' cs' e1 e2 e3 e4 _ _ _ k1 k2 k3 => by
    cases e1; cases e2
    have e3 := dR_inj e3
    have e4 := sideD_inj e4
    subst e3 e4
    exact z cs' k1 k2 k3⟩ in
#guard_msgs (pass all) in open Nat
theorem r_House_newX {x dx : Addr} {a b bd sd : D} {cs0 : Cs} {P : DP} {Z : XZ} (hx : x ∉ adr cs0) (k1 : knD a = true) (k2 : knD b = true) (k3 : knD bd = true) (k4 : plD 20 sd = true) (h : DL.Due (whyNew a b bd sd) (∀ cs', (∀ q m, look q cs0 = some m → look q cs' = some m) → P .non cs') (fun y => ∀ cs', (∀ q m, look q cs0 = some m → look q cs' = some m) → Z (exn y) cs')) : sp_House___init__ [.opq (.ref x), a, b, bd, sd] ((x, .ins "House" x dx []) :: cs0) P Z :=
  ⟨x, dx, cs0, _, _, _, _, rfl, rfl, hx, k1, k2, k3, k4, ⟨fun e w' h' r' dn' cs' _ _ _ _ _ _ _ _ q _ => h.ok e cs' q, h.no⟩⟩ in
#guard_msgs (pass all) in open Nat
theorem sc_House___init__ : FnScope ["self", "wide", "high", "bound", "side"] ["self", "wide", "high", "bound", "side"] (defScope s_House___init__) := ⟨rfl, rfl, rfl, by decide +kernel, rfl, by decide +kernel, by decide +kernel⟩
theorem ok_House___init__ {P : Program} {w : World} {K : PySem.W.Frag} {mg : Str → Option Value} {base : Heap} (T : Txt K mg base) : FnOk P w K mg base (L2.CX P w) 5 (He.ma K (He.ga K "House") "__init__") T.fd_House___init__ ["self", "wide", "high", "bound", "side"] (spL K 5 sp_House___init__) := by
  apply ok_def (k := 4) T.F_House___init__ sc_House___init__
  case hb =>
    intro cdv A outer s H E hr
    exact (dss_cons (ds_expr (d_callN (ok_need_measures T) (hr.mono (by decide)) rfl T.g_need_measures T.F_need_measures.kp (b_need_measures T) takesD (da_cons (d_var 1) (da_cons (d_var 2) da_nil))))
      (dss_cons (ds_expr (d_callN (ok_need_bound T) (hr.mono (by decide)) rfl T.g_need_bound T.F_need_bound.kp (b_need_bound T) takesD (da_cons (d_var 3) da_nil)))
      (dss_cons (ds_expr (d_callN (ok_need_side T) (hr.mono (by decide)) rfl T.g_need_side T.F_need_side.kp (b_need_side T) takesD (da_cons (d_var 4) da_nil)))
      (dss_cons (ds_fld (c := "House") T.cl_House T.na_House_now (d_mkF T.mk_Stand (ok_Stand___init__ T) (hr.mono (by decide)) rfl T.g_Stand (b_Stand___init__ T) takesD (da_cons (d_tup (da_cons (d_var 1) (da_cons (d_var 2) da_nil))) (da_cons (d_var 3) (da_cons (d_lockD d_newK) (da_cons (d_lockD (d_oneK d_str (d_mkF T.mk_Nest (ok_Nest___init__ T) (hr.mono (by decide)) rfl T.g_Nest (b_Nest___init__ T) takesD (da_cons (d_var 4) (da_cons (d_tup da_nil) (da_cons (d_tup da_nil) da_nil)))))) da_nil))))) (d_var 0))
      (dss_cons (ds_fld (c := "House") T.cl_House T.na_House_past (d_lstM da_nil) (d_var 0))
      (dss_cons (ds_fld (c := "House") T.cl_House T.na_House_later (d_lstM da_nil) (d_var 0))
      (dss_one (ds_fld (c := "House") T.cl_House T.na_House_shown_now d_non (d_var 0)))))))))
  case hsp =>
    skip
    rintro ds cs Q Z ⟨x, dx, cs0, a, b, bd, sd, rfl, rfl, hx, ka, kb, kd, ks, h⟩ _
    have hfr : ∀ q m, look q cs0 = some m → look q ((x, MO.ins "House" x dx []) :: cs0) = some m := fun q m e => by rw [look_cons_ne (look_ne e hx)]; exact e
    unfold whyNew at h
    show (_ : WS) (finD Q Z) [some _, some _, some _, some _, some _] _
    walk_at "GO"
    refine ⟨a, b, rfl, ka, kb, fun q1 => ?_, fun q1 => ?_⟩
    · rw [if_pos q1] at h
      walk_at "GO"
      refine ⟨bd, rfl, kd, fun q2 => ?_, fun q2 => ?_⟩
      · rw [if_pos q2] at h
        walk_at "GO"
        refine r_need_sideX ks (fun q3 => ?_) (fun q3 => ?_)
        · rw [if_pos q3] at h
          obtain ⟨w, rfl, w1, w2⟩ := szD_inv (Bool.and_eq_true_iff.mp q1).1
          obtain ⟨hh, rfl, g1, g2⟩ := szD_inv (Bool.and_eq_true_iff.mp q1).2
          obtain ⟨r, rfl, r1, r2⟩ := hbD_inv q2
          obtain ⟨dn, rfl⟩ := sideB_inv q3
          walk_at "GO"
          intro p1 hp1
          walk_at "GO"
          intro p2 hp2
          walk_at "GO"
          refine ⟨rfl, _, rfl, by exact look_hd, ?_⟩
          rw [put_hd]
          walk_at "GO"
          refine ⟨rfl, ?_⟩
          walk_at "GO"
          refine r_setf look_hd ?_ ?_
          · exact (show 0 < 1000 by decide)
          rw [put_hd]
          walk_at "GO"
          intro p hp
          have hxp : x ≠ p := fun z => hp (by rw [← z]; exact List.mem_cons_self ..)
          walk_at "GO"
          refine r_setf (by rw [look_cons_ne hxp]; exact look_hd) ?_ ?_
          · exact (show 1 < 1000 by decide)
          walk_at "GO"
          intro l hl
          rw [adr_put] at hl
          have hxl : x ≠ l := fun z => hl (by rw [← z]; exact List.mem_cons_of_mem _ (List.mem_cons_self ..))
          have hpl : p ≠ l := fun z => hl (by rw [← z]; exact List.mem_cons_self ..)
          have np : p ∉ adr cs0 := fun z => hp (List.mem_cons_of_mem _ z)
          have nl : l ∉ adr cs0 := fun z => hl (List.mem_cons_of_mem _ (List.mem_cons_of_mem _ z))
          walk_at "GO"
          refine r_setf (by rw [look_cons_ne hxl]; exact look_put (by rw [look_cons_ne hxp]; exact look_hd)) ?_ ?_
          · exact (show 2 < 1000 by decide)
          walk_at "GO"
          refine r_setf (look_put (by rw [look_cons_ne hxl]; exact look_put (by rw [look_cons_ne hxp]; exact look_hd))) ?_ ?_
          · exact (show 3 < 1000 by decide)
          walk_at "GO"
          rw [put_put]
          refine (h.ok rfl) w hh r dn _ rfl rfl rfl rfl ⟨w1, w2⟩ ⟨g1, g2⟩ ⟨r1, r2⟩ ⟨dx, p, l, .non, by exact look_put (by rw [look_cons_ne hxl]; exact look_put (by rw [look_cons_ne hxp]; exact look_hd)), .inl rfl, ?_, ?_, hpl⟩ ?_ ?_
          · rw [look_put_ne (Ne.symm hxp), look_cons_ne hpl, look_put_ne (Ne.symm hxp)]
            exact look_hd
          · rw [look_put_ne (Ne.symm hxl)]
            exact look_hd
          · intro q m e
            have n1 := look_ne e hx
            have n2 := look_ne e np
            have n3 := look_ne e nl
            rw [look_put_ne n1, look_cons_ne n3, look_put_ne n1, look_cons_ne n2, look_cons_ne n1]
            exact e
          · intro q hq
            rw [owns_of (by exact look_put (by rw [look_cons_ne hxl]; exact look_put (by rw [look_cons_ne hxp]; exact look_hd)))] at hq
            rcases List.mem_cons.mp hq with z | z
            · rw [z]; exact look_no hx
            rcases List.mem_cons.mp z with z | z
            · rw [z]; exact look_no np
            · rw [List.mem_singleton.mp z]; exact look_no nl
        · rw [if_neg (by rw [q3]; decide)] at h
          exact h.no (by decide) _ hfr
      · rw [if_neg (by rw [q2]; decide)] at h
        exact h.no (by decide) _ hfr
    · rw [if_neg (by rw [q1]; decide)] at h
      exact h.no (by decide) _ hfr in
#guard_msgs (pass all) in open Nat
def sp_law_bag : DSp := fun ds cs P _ => ∃ ns : List Int, ds = [.lst (ns.map D.int)] ∧ ∀ p b, p ∉ adr cs → BagOk b → P (.opq (.ref p)) ((p, b) :: cs)
theorem sc_law_bag : FnScope ["_law_script"] ["_law_script"] (defScope s_law_bag) := ⟨rfl, rfl, rfl, by decide +kernel, rfl, by decide +kernel, by decide +kernel⟩
theorem ok_law_bag {P : Program} {w : World} {K : PySem.W.Frag} {mg : Str → Option Value} {base : Heap} (T : Txt K mg base) : FnOk P w K mg base (L2.CX P w) 1 (He.ga K "_law_bag") T.fd_law_bag ["_law_script"] (spL K 1 sp_law_bag) := by
  apply ok_def (k := 0) T.F_law_bag sc_law_bag
  case hb =>
    intro cdv A outer s H E hr
    exact (dss_one (ds_ret (d_lstM (da_cons (d_callTy call_list_of adq_list rfl T.n_list (by decide +kernel) (da_cons (d_slice sl_list adq_slL (d_var 0) do_none (do_some d_int)) da_nil)) (da_cons d_int (da_cons d_int (da_cons (d_add d_int (d_callB call_len_seq adq_len rfl T.n_len (by decide +kernel) (da_cons (d_slice sl_list adq_slL (d_var 0) do_none (do_some d_int)) da_nil))) (da_cons d_int da_nil))))))))
  case hsp =>
    skip
    rintro ds cs Q Z ⟨ns, rfl, h⟩ _
    show ∀ p, p ∉ adr cs → Q (.opq (.ref p)) ((p, .lst [.lst (DL.cutD (ns.map D.int) none (some 63)), .int 0, .int 0, .int (9103 + ((DL.cutD (ns.map D.int) none (some 63)).length : Int)), .int 0]) :: cs)
    intro p hp
    have e : DL.cutD (ns.map D.int) none (some 63) = (ns.take (min 63 ns.length)).map D.int := by
      unfold DL.cutD
      simp [HT.sIx, List.map_take]
    have l : (DL.cutD (ns.map D.int) none (some 63)).length ≤ 63 := by
      rw [e, List.length_map, List.length_take]; omega
    refine h p _ hp ⟨ns.take (min 63 ns.length), 0, 0, 9103 + ((DL.cutD (ns.map D.int) none (some 63)).length : Int), 0, by rw [← e] <;> rfl, by omega, by omega, by omega⟩ in
#guard_msgs (pass all) in open Nat
def sp_House_steps : DSp := fun ds cs P _ => ∃ (h : Addr) (s : StandS) (ps ls : List StandS), ds = [.opq (.ref h)] ∧ HouseIn h s ps ls cs ∧ P (.tup [.int ps.length, .int ls.length]) cs
theorem r_House_steps {h : Addr} {s : StandS} {ps ls : List StandS} {cs : Cs} {P : DP} {Z : XZ} (e : HouseIn h s ps ls cs) (z : P (.tup [.int ps.length, .int ls.length]) cs) : sp_House_steps [.opq (.ref h)] cs P Z := ⟨h, s, ps, ls, rfl, e, z⟩
theorem sc_House_steps : FnScope ["self"] ["self"] (defScope s_House_steps) := ⟨rfl, rfl, rfl, by decide +kernel, rfl, by decide +kernel, by decide +kernel⟩
theorem ok_House_steps {P : Program} {w : World} {K : PySem.W.Frag} {mg : Str → Option Value} {base : Heap} (T : Txt K mg base) : FnOk P w K mg base (L2.CX P w) 1 (He.ma K (He.ga K "House") "steps") T.fd_House_steps ["self"] (spL K 1 sp_House_steps) := by
  apply ok_def (k := 0) T.F_House_steps sc_House_steps
  case hb =>
    intro cdv A outer s H E hr
    exact (dss_one (ds_ret (d_tup (da_cons (d_callB call_len_seq adq_lenX rfl T.n_len (by decide +kernel) (da_cons (d_fld (c := "House") T.cl_House T.na_House_past (d_var 0)) da_nil)) (da_cons (d_callB call_len_seq adq_lenX rfl T.n_len (by decide +kernel) (da_cons (d_fld (c := "House") T.cl_House T.na_House_later (d_var 0)) da_nil)) da_nil)))))
  case hsp =>
    skip
    rintro ds cs Q Z ⟨hh, s, ps, ls, rfl, ⟨dx, p, l, sh, e, hsh, ep, el, hpl⟩, h⟩ _
    show (_ : WS) (finD Q Z) [some _] _
    walk_at "GO"
    refine r_lenXM ep ?_
    walk_at "GO"
    refine r_lenXM el ?_
    walk_at "GO"
    rw [List.length_map, List.length_map]
    exact h in
#guard_msgs (pass all) in open Nat
local macro_rules | `(tactic| walk_at "cl") => `(tactic| (first | ((with_reducible apply r_House_steps); (assumption))))
def sp_Stand_order : DSp := fun _ _ _ _ => False
theorem ok_Stand_order {P : Program} {w : World} {K : PySem.W.Frag} {mg : Str → Option Value} {base : Heap} (T : Txt K mg base) : FnOk P w K mg base (L2.CX P w) 1 (He.ma K (He.ga K "Stand") "order") T.fd_Stand_order ["self"] (spL K 1 sp_Stand_order) := vacF
def sp_Stand_within : Nat → DSp
  | 0 => fun _ _ _ _ => False
  | _ + 1 => fun ds cs P _ => ∃ (w hh : Int) (r : Rat) (dn : Bool), ds = [(newS w hh r dn).d, .str ""] ∧ P (.lst []) cs
theorem r_Stand_within {w hh : Int} {r : Rat} {dn : Bool} {n : Nat} {cs : Cs} {P : DP} {Z : XZ} (h : P (.lst []) cs) : sp_Stand_within (n + 1) [(newS w hh r dn).d, .str ""] cs P Z := ⟨w, hh, r, dn, rfl, h⟩
theorem sc_Stand_within : FnScope ["self", "name", "one", "two"] ["self", "name"] (defScope s_Stand_within) := ⟨rfl, rfl, rfl, by decide +kernel, rfl, by decide +kernel, by decide +kernel⟩
theorem ok_Stand_within {P : Program} {w : World} {K : PySem.W.Frag} {mg : Str → Option Value} {base : Heap} (T : Txt K mg base) (n : Nat) : FnOk P w K mg base (L2.CX P w) (n + 1) (He.ma K (He.ga K "Stand") "within") T.fd_Stand_within ["self", "name"] (spL K 2 (sp_Stand_within n)) := by
  induction n with
  | zero => exact vacF
  | succ n G =>
  rw [show n + 1 + 1 = (n + 1) + 1 from by omega]
  apply ok_def (k := n + 1) T.F_Stand_within sc_Stand_within
  case hb =>
    intro cdv A outer s H E hr
    exact (dss_cons (ds_if (dt_inD hr.units (d_var 1) (d_fld (c := "Stand") T.cl_Stand T.na_Stand_weighed (d_var 0))) (dss_one (ds_ret (d_lst da_nil))) dss_nil)
      (dss_one (ds_ret (d_lc2 RD (fun _ _ _ _ pe => cend_data pe) rfl sc_Stand_within.nd (di_tup (d_fld (c := "Nest") T.cl_Nest T.na_Nest_inner (d_getD hr.units (d_fld (c := "Stand") T.cl_Stand T.na_Stand_held (d_var 0)) (d_var 1)))) (vs1 := [3]) (blkOk_by (own := [("one", 2), ("two", 3)]) (N := ["self", "name", "one", "two"]) (sc := defScope s_Stand_within) (by decide +kernel)) (by decide) (gok_name (by decide)) (gok_name (by decide)) (fun _ _ _ _ _ => (pg_name (i := 2) sc_Stand_within.nd rfl (Or.inl rfl))) (fun _ _ _ _ _ => dts_nil) (fun _ _ _ _ _ => (di_list (d_catL (d_lst (da_cons (d_var 2) da_nil)) (d_meth T.cl_Stand T.m_Stand_within G hr (b_Stand_within T) .nil (fun _ => .nil) takes0 (d_var 0) (da_cons (d_var 2) da_nil))))) (fun _ _ _ _ _ => (pg_name (i := 3) sc_Stand_within.nd rfl (Or.inl rfl))) (fun _ _ _ _ _ => dts_nil) (fun _ _ _ _ _ => (d_var 3))))))
  case hsp =>
    skip
    rintro ds cs Q Z ⟨w, hh, r, dn, rfl, h⟩ _
    show (_ : WS) (finD Q Z) [some _, some _, none, none] _
    walk_at "GO"
    rw [lk_wgS, newS_lkw]
    walk_at "GO"
    refine r_getKS newS_held ?_
    walk_at "GO"
    exact h in
#guard_msgs (pass all) in open Nat
local macro_rules | `(tactic| walk_at "cl") => `(tactic| (first | with_reducible refine r_Stand_within ?_))
def sp_Stand_weight_of : DSp := fun ds cs P _ => ∃ (w hh : Int) (r : Rat) (dn : Bool), ds = [(newS w hh r dn).d, .str ""] ∧ P (.int 0) cs
theorem r_Stand_weight_of {w hh : Int} {r : Rat} {dn : Bool} {cs : Cs} {P : DP} {Z : XZ} (h : P (.int 0) cs) : sp_Stand_weight_of [(newS w hh r dn).d, .str ""] cs P Z := ⟨w, hh, r, dn, rfl, h⟩
theorem sc_Stand_weight_of : FnScope ["self", "name", "one"] ["self", "name"] (defScope s_Stand_weight_of) := ⟨rfl, rfl, rfl, by decide +kernel, rfl, by decide +kernel, by decide +kernel⟩
theorem ok_Stand_weight_of {P : Program} {w : World} {K : PySem.W.Frag} {mg : Str → Option Value} {base : Heap} (T : Txt K mg base) : FnOk P w K mg base (L2.CX P w) 3 (He.ma K (He.ga K "Stand") "weight_of") T.fd_Stand_weight_of ["self", "name"] (spL K 2 sp_Stand_weight_of) := by
  apply ok_def (k := 2) T.F_Stand_weight_of sc_Stand_weight_of
  case hb =>
    intro cdv A outer s H E hr
    exact (dss_cons (ds_if (dt_inD hr.units (d_var 1) (d_fld (c := "Stand") T.cl_Stand T.na_Stand_weighed (d_var 0))) (dss_one (ds_ret (d_getD hr.units (d_fld (c := "Stand") T.cl_Stand T.na_Stand_weighed (d_var 0)) (d_var 1)))) dss_nil)
      (dss_one (ds_ret (d_callB (cr_sumA rfl) adq_sumA rfl T.n_sum (by decide +kernel) (da_cons (d_lc rfl sc_Stand_weight_of.nd (di_list (d_meth T.cl_Stand T.m_Stand_within (ok_Stand_within T 1) (hr.mono (by decide)) (b_Stand_within T) .nil (fun _ => .nil) takesD (d_var 0) (da_cons (d_var 1) da_nil))) (blkOk_by (own := [("one", 2)]) (N := ["self", "name", "one"]) (sc := defScope s_Stand_weight_of) (by decide +kernel)) (gok_name (by decide)) (fun _ _ _ _ _ => (pg_name (i := 2) sc_Stand_weight_of.nd rfl (Or.inl rfl))) (fun _ _ _ _ _ => (dts_one (dt_inD hr.units (d_var 2) (d_fld (c := "Stand") T.cl_Stand T.na_Stand_weighed (d_var 0))))) (fun _ _ _ _ _ => (d_getD hr.units (d_fld (c := "Stand") T.cl_Stand T.na_Stand_weighed (d_var 0)) (d_var 2)))) da_nil)))))
  case hsp =>
    skip
    rintro ds cs Q Z ⟨w, hh, r, dn, rfl, h⟩ _
    show (_ : WS) (finD Q Z) [some _, some _, none] _
    walk_at "GO"
    rw [lk_wgS, newS_lkw]
    walk_at "GO"
    refine ⟨Nat.zero_le _, ?_⟩
    rw [compW]
    walk_at "GO"
    refine r_sumL (ns := []) ?_
    exact h in
#guard_msgs (pass all) in open Nat
local macro_rules | `(tactic| walk_at "cl") => `(tactic| (first | with_reducible refine r_Stand_weight_of ?_))
def sp_box_of : DSp := fun _ _ _ _ => False
theorem ok_box_of {P : Program} {w : World} {K : PySem.W.Frag} {mg : Str → Option Value} {base : Heap} (T : Txt K mg base) : FnOk P w K mg base (L2.CX P w) 4 (He.ga K "box_of") T.fd_box_of ["wide", "high", "left", "top"] (spL K 4 sp_box_of) := vacF
def sp_Stand_boxes_in : DSp := fun _ _ _ _ => False
theorem ok_Stand_boxes_in {P : Program} {w : World} {K : PySem.W.Frag} {mg : Str → Option Value} {base : Heap} (T : Txt K mg base) : FnOk P w K mg base (L2.CX P w) 1 (He.ma K (He.ga K "Stand") "boxes_in") T.fd_Stand_boxes_in ["self", "nest", "box"] (spL K 3 sp_Stand_boxes_in) := vacF
def sp_Stand_boxes : DSp := fun ds cs P _ => ∃ (w hh : Int) (r : Rat) (dn : Bool), ds = [(newS w hh r dn).d] ∧ P (.dic []) cs
theorem r_Stand_boxes {w hh : Int} {r : Rat} {dn : Bool} {cs : Cs} {P : DP} {Z : XZ} (h : P (.dic []) cs) : sp_Stand_boxes [(newS w hh r dn).d] cs P Z := ⟨w, hh, r, dn, rfl, h⟩
theorem sc_Stand_boxes : FnScope ["self", "found", "nest"] ["self"] (defScope s_Stand_boxes) := ⟨rfl, rfl, rfl, by decide +kernel, rfl, by decide +kernel, by decide +kernel⟩
theorem ok_Stand_boxes {P : Program} {w : World} {K : PySem.W.Frag} {mg : Str → Option Value} {base : Heap} (T : Txt K mg base) : FnOk P w K mg base (L2.CX P w) 5 (He.ma K (He.ga K "Stand") "boxes") T.fd_Stand_boxes ["self"] (spL K 1 sp_Stand_boxes) := by
  apply ok_def (k := 4) T.F_Stand_boxes sc_Stand_boxes
  case hb =>
    intro cdv A outer s H E hr
    exact (dss_cons (ds_if (dt_eq hr.units (d_meth T.cl_Stand T.m_Stand_weight_of (ok_Stand_weight_of T) (hr.mono (by decide)) (b_Stand_weight_of T) .nil (fun _ => .nil) takesD (d_var 0) (da_cons d_str da_nil)) d_int) (dss_one (ds_ret (d_lockD d_newK))) dss_nil)
      (dss_cons (ds_set (i := 1) sc_Stand_boxes.nd rfl (Or.inl rfl) (d_oneK d_str (d_callD (dds := [.int 0, .int 0]) (ok_box_of T) (hr.mono (by decide)) rfl T.g_box_of T.F_box_of.kp (b0_box_of T) (fun _ => (RepL.cons (.int _) (RepL.cons (.int _) RepL.nil))) takesD (da_cons (d_sub_ix (d_fld (c := "Stand") T.cl_Stand T.na_Stand_measures (d_var 0)) d_int) (da_cons (d_sub_ix (d_fld (c := "Stand") T.cl_Stand T.na_Stand_measures (d_var 0)) d_int) da_nil)))))
      (dss_cons (ds_for passD rfl (di_list (d_meth0 T.cl_Stand T.m_Stand_order (ok_Stand_order T) (hr.mono (by decide)) (b_Stand_order T) .nil (fun _ => .nil) takesD (d_var 0))) (dg_name (i := 2) sc_Stand_boxes.nd rfl (Or.inl rfl)) (dss_one (ds_if (dt_inD hr.units (d_var 2) (d_var 1)) (dss_one (ds_expr (d_update (d_var 1) (da_cons (d_meth T.cl_Stand T.m_Stand_boxes_in (ok_Stand_boxes_in T) (hr.mono (by decide)) (b_Stand_boxes_in T) .nil (fun _ => .nil) takesD (d_var 0) (da_cons (d_var 2) (da_cons (d_getD hr.units (d_var 1) (d_var 2)) da_nil))) da_nil)))) dss_nil)))
      (dss_one (ds_ret (d_lockD (d_var 1)))))))
  case hsp =>
    skip
    rintro ds cs Q Z ⟨w, hh, r, dn, rfl, h⟩ _
    show (_ : WS) (finD Q Z) [some _, none, none] _
    walk_at "GO"
    refine r_pos rfl ?_
    walk_at "GO"
    intro p hp
    refine r_lockK ?_
    exact h in
#guard_msgs (pass all) in open Nat
local macro_rules | `(tactic| walk_at "cl") => `(tactic| (first | with_reducible refine r_Stand_boxes ?_))
def sp_House_all_boxes : DSp := fun ds cs P _ => ∃ (h : Addr) (w hh : Int) (r : Rat) (dn : Bool) (ps ls : List StandS), ds = [.opq (.ref h)] ∧ HouseIn h (newS w hh r dn) ps ls cs ∧ ∀ cs', HouseIn h (newS w hh r dn) ps ls cs' → HFr h cs cs' → P (.dic []) cs'
theorem r_House_all_boxes {h : Addr} {w hh : Int} {r : Rat} {dn : Bool} {ps ls : List StandS} {cs : Cs} {P : DP} {Z : XZ} (e : HouseIn h (newS w hh r dn) ps ls cs) (z : ∀ cs', HouseIn h (newS w hh r dn) ps ls cs' → HFr h cs cs' → P (.dic []) cs') : sp_House_all_boxes [.opq (.ref h)] cs P Z := ⟨h, w, hh, r, dn, ps, ls, rfl, e, z⟩
theorem sc_House_all_boxes : FnScope ["self"] ["self"] (defScope s_House_all_boxes) := ⟨rfl, rfl, rfl, by decide +kernel, rfl, by decide +kernel, by decide +kernel⟩
theorem ok_House_all_boxes {P : Program} {w : World} {K : PySem.W.Frag} {mg : Str → Option Value} {base : Heap} (T : Txt K mg base) : FnOk P w K mg base (L2.CX P w) 6 (He.ma K (He.ga K "House") "all_boxes") T.fd_House_all_boxes ["self"] (spL K 1 sp_House_all_boxes) := by
  apply ok_def (k := 5) T.F_House_all_boxes sc_House_all_boxes
  case hb =>
    intro cdv A outer s H E hr
    exact (dss_cons (ds_if (dt_is (d_fld (c := "House") T.cl_House T.na_House_shown_now (d_var 0)) d_non) (dss_one (ds_fld (c := "House") T.cl_House T.na_House_shown_now (d_meth0 T.cl_Stand T.m_Stand_boxes (ok_Stand_boxes T) (hr.mono (by decide)) (b_Stand_boxes T) .nil (fun _ => .nil) takesD (d_fld (c := "House") T.cl_House T.na_House_now (d_var 0))) (d_var 0))) dss_nil)
      (dss_one (ds_ret (d_fld (c := "House") T.cl_House T.na_House_shown_now (d_var 0)))))
  case hsp =>
    skip
    rintro ds cs Q Z ⟨hh, w, g, r, dn, ps, ls, rfl, hin, h⟩ _
    have hb : (newS w g r dn).boxes = [] := newS_boxes
    obtain ⟨dx, p, l, sh, e, hsh, ep, el, hpl⟩ := hin
    show (_ : WS) (finD Q Z) [some _] _
    walk_at "GO"
    rcases hsh with rfl | rfl
    · rw [show isNonD D.non = true from rfl]
      walk_at "GO"
      refine r_shown (look_put e) ?_
      walk_at "GO"
      exact h _ (HouseIn.shown e ep el hpl (.inr (by rw [hb]; rfl))) (HFr.put e)
    · rw [show isNonD (D.dic (dicB (newS w g r dn).boxes)) = false from rfl]
      walk_at "GO"
      rw [hb]
      exact h _ ⟨dx, p, l, _, e, .inr rfl, ep, el, hpl⟩ HFr.refl in
#guard_msgs (pass all) in open Nat
def sp_House_boxes : DSp := fun ds cs P _ => ∃ (h : Addr) (w hh : Int) (r : Rat) (dn : Bool) (ps ls : List StandS), ds = [.opq (.ref h)] ∧ HouseIn h (newS w hh r dn) ps ls cs ∧ ∀ cs', HouseIn h (newS w hh r dn) ps ls cs' → HFr h cs cs' → P (.dic []) cs'
theorem r_House_boxes {h : Addr} {w hh : Int} {r : Rat} {dn : Bool} {ps ls : List StandS} {cs : Cs} {P : DP} {Z : XZ} (e : HouseIn h (newS w hh r dn) ps ls cs) (z : ∀ cs', HouseIn h (newS w hh r dn) ps ls cs' → HFr h cs cs' → P (.dic []) cs') : sp_House_boxes [.opq (.ref h)] cs P Z := ⟨h, w, hh, r, dn, ps, ls, rfl, e, z⟩
theorem sc_House_boxes : FnScope ["self", "found", "name"] ["self"] (defScope s_House_boxes) := ⟨rfl, rfl, rfl, by decide +kernel, rfl, by decide +kernel, by decide +kernel⟩
theorem ok_House_boxes {P : Program} {w : World} {K : PySem.W.Frag} {mg : Str → Option Value} {base : Heap} (T : Txt K mg base) : FnOk P w K mg base (L2.CX P w) 7 (He.ma K (He.ga K "House") "boxes") T.fd_House_boxes ["self"] (spL K 1 sp_House_boxes) := by
  apply ok_def (k := 6) T.F_House_boxes sc_House_boxes
  case hb =>
    intro cdv A outer s H E hr
    exact (dss_cons (ds_set (i := 1) sc_House_boxes.nd rfl (Or.inr rfl) (d_meth0 T.cl_House T.m_House_all_boxes (ok_House_all_boxes T) (hr.mono (by decide)) (b_House_all_boxes T) .nil (fun _ => .nil) takesD (d_var 0)))
      (dss_one (ds_ret (d_lockD (d_dcK rfl sc_House_boxes.nd (di_list (d_callB (cr_sortDS rfl) adq_sortDS rfl T.n_sorted (by decide +kernel) (da_cons (d_fld (c := "Stand") T.cl_Stand T.na_Stand_weighed (d_fld (c := "House") T.cl_House T.na_House_now (d_var 0))) da_nil))) (blkOk_by (own := [("name", 2)]) (N := ["self", "found", "name"]) (sc := defScope s_House_boxes) (by decide +kernel)) (gok_name (by decide)) (fun _ _ _ _ _ => (pg_name (i := 2) sc_House_boxes.nd rfl (Or.inl rfl))) (fun _ _ _ _ _ => dts_nil) (fun _ _ _ _ _ => (d_var 2)) (fun _ _ _ _ _ => (d_getD hr.units (d_var 1) (d_var 2))))))))
  case hsp =>
    skip
    rintro ds cs Q Z ⟨hh, w, g, r, dn, ps, ls, rfl, hin, h⟩ _
    show (_ : WS) (finD Q Z) [some _, none, none] _
    walk_at "GO"
    refine r_House_all_boxes hin fun cs1 hin1 fr1 => ?_
    obtain ⟨dx, p, l, sh, e, hsh, ep, el, hpl⟩ := id hin1
    walk_at "GO"
    refine r_sortDS (ks := []) rfl (by decide) ?_
    walk_at "GO"
    rw [show sortN [] = [] from List.mergeSort_nil, List.map_nil]
    refine ⟨Nat.zero_le _, ?_⟩
    rw [dcW]
    intro p hp
    refine r_lockK ?_
    exact h _ hin1 fr1 in
#guard_msgs (pass all) in open Nat
def sp_shape_by : DSp := fun _ _ _ _ => False
theorem ok_shape_by {P : Program} {w : World} {K : PySem.W.Frag} {mg : Str → Option Value} {base : Heap} (T : Txt K mg base) : FnOk P w K mg base (L2.CX P w) 1 (He.ga K "shape_by") T.fd_shape_by ["wide", "high"] (spL K 2 sp_shape_by) := vacF
def sp_greatest : DSp := fun _ _ _ _ => False
theorem ok_greatest {P : Program} {w : World} {K : PySem.W.Frag} {mg : Str → Option Value} {base : Heap} (T : Txt K mg base) : FnOk P w K mg base (L2.CX P w) 1 (He.ga K "greatest") T.fd_greatest ["parts"] (spL K 1 sp_greatest) := vacF
def sp_House_worst : DSp := fun ds cs P _ => ∃ (h : Addr) (w hh : Int) (r : Rat) (dn : Bool) (ps ls : List StandS), ds = [.opq (.ref h)] ∧ HouseIn h (newS w hh r dn) ps ls cs ∧ ∀ cs', HouseIn h (newS w hh r dn) ps ls cs' → HFr h cs cs' → P .non cs'
theorem r_House_worst {h : Addr} {w hh : Int} {r : Rat} {dn : Bool} {ps ls : List StandS} {cs : Cs} {P : DP} {Z : XZ} (e : HouseIn h (newS w hh r dn) ps ls cs) (z : ∀ cs', HouseIn h (newS w hh r dn) ps ls cs' → HFr h cs cs' → P .non cs') : sp_House_worst [.opq (.ref h)] cs P Z := ⟨h, w, hh, r, dn, ps, ls, rfl, e, z⟩
theorem sc_House_worst : FnScope ["self", "shapes", "name", "box"] ["self"] (defScope s_House_worst) := ⟨rfl, rfl, rfl, by decide +kernel, rfl, by decide +kernel, by decide +kernel⟩
theorem ok_House_worst {P : Program} {w : World} {K : PySem.W.Frag} {mg : Str → Option Value} {base : Heap} (T : Txt K mg base) : FnOk P w K mg base (L2.CX P w) 8 (He.ma K (He.ga K "House") "worst") T.fd_House_worst ["self"] (spL K 1 sp_House_worst) := by
  apply ok_def (k := 7) T.F_House_worst sc_House_worst
  case hb =>
    intro cdv A outer s H E hr
    exact (dss_cons (ds_setLc (i := 1) rfl sc_House_worst.nd rfl rfl (sw_true rfl rfl rfl (by decide +kernel)) (di_itemsK (d_meth0 T.cl_House T.m_House_boxes (ok_House_boxes T) (hr.mono (by decide)) (b_House_boxes T) .nil (fun _ => .nil) takesD (d_var 0))) (blkOk_by (own := [("name", 2), ("box", 3)]) (N := ["self", "shapes", "name", "box"]) (sc := defScope s_House_worst) (by decide +kernel)) (gok_two (by decide) (by decide)) (fun _ _ _ _ _ => (pg_tup (n := 2) rfl (pgs_cons (pg_name (i := 2) sc_House_worst.nd rfl (Or.inl rfl)) (pgs_cons (pg_name (i := 3) sc_House_worst.nd rfl (Or.inl rfl)) pgs_nil)))) (fun _ _ _ _ _ => dts_nil) (fun _ _ _ _ _ => (d_callN (ok_shape_by T) (hr.mono (by decide)) rfl T.g_shape_by T.F_shape_by.kp (b_shape_by T) takes0 (da_cons (d_sub_ix (d_var 3) d_int) (da_cons (d_sub_ix (d_var 3) d_int) da_nil)))))
      (dss_one (ds_ret (d_if (dt_ne hr.units (d_var 1) (d_lst da_nil)) (d_callN (ok_greatest T) (hr.mono (by decide)) rfl T.g_greatest T.F_greatest.kp (b_greatest T) takesD (da_cons (d_var 1) da_nil)) d_non))))
  case hsp =>
    skip
    rintro ds cs Q Z ⟨hh, w, g, r, dn, ps, ls, rfl, hin, h⟩ _
    show (_ : WS) (finD Q Z) [some _, none, none, none] _
    walk_at "GO"
    refine r_House_boxes hin fun cs1 hin1 fr1 => ?_
    walk_at "GO"
    refine ⟨Nat.zero_le _, ?_⟩
    rw [List.map_nil, compW]
    walk_at "GO"
    refine r_neNilD (xs := []) rfl ?_
    rw [show (!([] : List D).isEmpty) = false from rfl]
    walk_at "GO"
    exact h _ hin1 fr1 in
#guard_msgs (pass all) in open Nat
def sp_lies_in : DSp := fun _ _ _ _ => False
theorem ok_lies_in {P : Program} {w : World} {K : PySem.W.Frag} {mg : Str → Option Value} {base : Heap} (T : Txt K mg base) : FnOk P w K mg base (L2.CX P w) 1 (He.ga K "lies_in") T.fd_lies_in ["box", "x", "y"] (spL K 3 sp_lies_in) := vacF
def sp_House_under : DSp := fun ds cs P _ => ∃ (h : Addr) (w hh : Int) (r : Rat) (dn : Bool) (ps ls : List StandS) (a b : D), ds = [.opq (.ref h), a, b] ∧ HouseIn h (newS w hh r dn) ps ls cs ∧ ∀ cs', HouseIn h (newS w hh r dn) ps ls cs' → HFr h cs cs' → P (.str "") cs'
theorem r_House_under {h : Addr} {w hh : Int} {r : Rat} {dn : Bool} {ps ls : List StandS} {a b : D} {cs : Cs} {P : DP} {Z : XZ} (e : HouseIn h (newS w hh r dn) ps ls cs) (z : ∀ cs', HouseIn h (newS w hh r dn) ps ls cs' → HFr h cs cs' → P (.str "") cs') : sp_House_under [.opq (.ref h), a, b] cs P Z := ⟨h, w, hh, r, dn, ps, ls, a, b, rfl, e, z⟩
theorem sc_House_under : FnScope ["self", "x", "y", "name", "box"] ["self", "x", "y"] (defScope s_House_under) := ⟨rfl, rfl, rfl, by decide +kernel, rfl, by decide +kernel, by decide +kernel⟩
theorem ok_House_under {P : Program} {w : World} {K : PySem.W.Frag} {mg : Str → Option Value} {base : Heap} (T : Txt K mg base) : FnOk P w K mg base (L2.CX P w) 8 (He.ma K (He.ga K "House") "under") T.fd_House_under ["self", "x", "y"] (spL K 3 sp_House_under) := by
  apply ok_def (k := 7) T.F_House_under sc_House_under
  case hb =>
    intro cdv A outer s H E hr
    exact (dss_cons (ds_for passD rfl (di_itemsK (d_meth0 T.cl_House T.m_House_boxes (ok_House_boxes T) (hr.mono (by decide)) (b_House_boxes T) .nil (fun _ => .nil) takesD (d_var 0))) (dg_tup (n := 2) rfl (dgs_cons (dg_name (i := 3) sc_House_under.nd rfl (Or.inl rfl)) (dgs_cons (dg_name (i := 4) sc_House_under.nd rfl (Or.inl rfl)) dgs_nil))) (dss_one (ds_if (dt_val (d_callN (ok_lies_in T) (hr.mono (by decide)) rfl T.g_lies_in T.F_lies_in.kp (b_lies_in T) takesD (da_cons (d_var 4) (da_cons (d_var 1) (da_cons (d_var 2) da_nil))))) (dss_one (ds_ret (d_var 3))) dss_nil)))
      (dss_one (ds_ret d_str)))
  case hsp =>
    skip
    rintro ds cs Q Z ⟨hh, w, g, r, dn, ps, ls, a, b, rfl, hin, h⟩ _
    show (_ : WS) (finD Q Z) [some _, some _, some _, none, none] _
    walk_at "GO"
    refine r_House_boxes hin fun cs1 hin1 fr1 => ?_
    walk_at "GO"
    exact h _ hin1 fr1 in
#guard_msgs (pass all) in open Nat
def sp_lines_of : DSp := fun _ _ _ _ => False
theorem ok_lines_of {P : Program} {w : World} {K : PySem.W.Frag} {mg : Str → Option Value} {base : Heap} (T : Txt K mg base) : FnOk P w K mg base (L2.CX P w) 1 (He.ga K "lines_of") T.fd_lines_of ["box", "wide", "high", "columns", "rows"] (spL K 5 sp_lines_of) := vacF
def sp_drawn : DSp := fun ds cs P _ => ∃ (W H : Int) (C R : Nat), ds = [.dic [], .int W, .int H, .int (C : Int), .int (R : Int)] ∧ (0 < W ∧ W ≤ 1000) ∧ (0 < H ∧ H ≤ 1000) ∧ (1 ≤ C ∧ C ≤ 40) ∧ (1 ≤ R ∧ R ≤ 40) ∧ ∀ q cs', (∀ a m, look a cs = some m → look a cs' = some m) → P (.opq (.ref q)) cs'
theorem r_drawn {W H : Int} {C R : Nat} {cs : Cs} {P : DP} {Z : XZ} (hW : 0 < W ∧ W ≤ 1000) (hH : 0 < H ∧ H ≤ 1000) (hC : 1 ≤ C ∧ C ≤ 40) (hR : 1 ≤ R ∧ R ≤ 40) (h : ∀ q cs', (∀ a m, look a cs = some m → look a cs' = some m) → P (.opq (.ref q)) cs') : sp_drawn [.dic [], .int W, .int H, .int (C : Int), .int (R : Int)] cs P Z := ⟨W, H, C, R, rfl, hW, hH, hC, hR, h⟩
theorem sc_drawn : FnScope ["boxes", "wide", "high", "columns", "rows", "found", "row", "name", "left", "right", "top", "bottom"] ["boxes", "wide", "high", "columns", "rows"] (defScope s_drawn) := ⟨rfl, rfl, rfl, by decide +kernel, rfl, by decide +kernel, by decide +kernel⟩
theorem ok_drawn {P : Program} {w : World} {K : PySem.W.Frag} {mg : Str → Option Value} {base : Heap} (T : Txt K mg base) : FnOk P w K mg base (L2.CX P w) 4 (He.ga K "drawn") T.fd_drawn ["boxes", "wide", "high", "columns", "rows"] (spL K 5 sp_drawn) := by
  apply ok_def (k := 3) T.F_drawn sc_drawn
  case hb =>
    intro cdv A outer s H E hr
    exact (dss_cons (ds_if (dt_w (dw_or (dt_not (dt_val (d_callN (ok_is_size T) (hr.mono (by decide)) rfl T.g_is_size T.F_is_size.kp (b_is_size T) takesD (da_cons (d_var 1) (da_cons (d_gint rfl T.c_MOST_SIZE) da_nil))))) (dw_or1 (dt_not (dt_val (d_callN (ok_is_size T) (hr.mono (by decide)) rfl T.g_is_size T.F_is_size.kp (b_is_size T) takesD (da_cons (d_var 2) (da_cons (d_gint rfl T.c_MOST_SIZE) da_nil)))))))) (dss_one (ds_raise0 rfl takesD T.x_BadBox.x T.x_BadBox.ini T.x_BadBox.ty (ok_i_BadBox T) (hr.mono (by decide)) (b_i_BadBox T) .nil (fun _ => .nil) rfl fld0 rfl T.g_BadBox)) dss_nil)
      (dss_cons (ds_if (dt_w (dw_or (dt_not (dt_val (d_callN (ok_is_size T) (hr.mono (by decide)) rfl T.g_is_size T.F_is_size.kp (b_is_size T) takesD (da_cons (d_var 3) (da_cons (d_gint rfl T.c_MOST_SQUARES) da_nil))))) (dw_or1 (dt_not (dt_val (d_callN (ok_is_size T) (hr.mono (by decide)) rfl T.g_is_size T.F_is_size.kp (b_is_size T) takesD (da_cons (d_var 4) (da_cons (d_gint rfl T.c_MOST_SQUARES) da_nil)))))))) (dss_one (ds_raise0 rfl takesD T.x_BadSizes.x T.x_BadSizes.ini T.x_BadSizes.ty (ok_i_BadSizes T) (hr.mono (by decide)) (b_i_BadSizes T) .nil (fun _ => .nil) rfl fld0 rfl T.g_BadSizes)) dss_nil)
      (dss_cons (ds_setLcM (i := 5) rfl sc_drawn.nd rfl rfl (sw_true rfl rfl rfl (by decide +kernel)) (di_range1 rfl T.n_range (da_cons (d_var 4) da_nil)) (blkOk_by (own := [("row", 6)]) (N := ["boxes", "wide", "high", "columns", "rows", "found", "row", "name", "left", "right", "top", "bottom"]) (sc := defScope s_drawn) (by decide +kernel)) (gok_name (by decide)) (fun _ _ _ _ _ => (pg_name (i := 6) sc_drawn.nd rfl (Or.inl rfl))) (fun _ _ _ _ _ => dts_nil) (fun _ _ _ _ _ => (d_lrepM (da_cons d_str da_nil) (d_var 3))))
      (dss_cons (ds_for passD rfl (di_keys (d_var 0)) (dg_name (i := 7) sc_drawn.nd rfl (Or.inl rfl)) (dss_cons (ds_asg (d_callN (ok_lines_of T) (hr.mono (by decide)) rfl T.g_lines_of T.F_lines_of.kp (b_lines_of T) takesD (da_cons (d_getD hr.units (d_var 0) (d_var 7)) (da_cons (d_var 1) (da_cons (d_var 2) (da_cons (d_var 3) (da_cons (d_var 4) da_nil)))))) (dg_tup (n := 4) rfl (dgs_cons (dg_name (i := 8) sc_drawn.nd rfl (Or.inl rfl)) (dgs_cons (dg_name (i := 9) sc_drawn.nd rfl (Or.inl rfl)) (dgs_cons (dg_name (i := 10) sc_drawn.nd rfl (Or.inl rfl)) (dgs_cons (dg_name (i := 11) sc_drawn.nd rfl (Or.inl rfl)) dgs_nil))))))
      (dss_one (ds_for passD rfl (di_range2 rfl T.n_range (da_cons (d_var 10) (da_cons (d_var 11) da_nil))) (dg_name (i := 6) sc_drawn.nd rfl (Or.inl rfl)) (dss_one (ds_goneA (ds_setSl (d_lrepM (da_cons (d_var 7) da_nil) (d_sub (d_var 9) (d_var 8))) (d_ixM (d_var 5) (d_var 6)) (do_some (d_var 8)) (do_some (d_var 9)))))))))
      (dss_one (ds_ret (d_var 5)))))))
  case hsp =>
    skip
    rintro ds cs Q Z ⟨W, H, C, R, rfl, ⟨w0, w1⟩, ⟨h0, h1⟩, ⟨c0, c1⟩, ⟨r0, r1⟩, h⟩ _
    show (_ : WS) (finD Q Z) [some _, some _, some _, some _, some _, none, none, none, none, none, none, none] _
    walk_at "GO"
    refine r_npos ⟨w0, w1⟩ ?_
    walk_at "GO"
    refine r_npos ⟨h0, h1⟩ ?_
    walk_at "GO"
    refine r_npos (by omega) ?_
    walk_at "GO"
    refine r_npos (by omega) ?_
    walk_at "GO"
    refine ⟨by omega, by rw [rng_len]; omega, ?_⟩
    refine r_comp0 (fun i acc cs' => (∃ ps : List Addr, acc = ps.map (fun p => D.opq (.ref p)) ∧ ps.length = i) ∧ ∀ a m, look a cs = some m → look a cs' = some m) ⟨⟨[], rfl, rfl⟩, fun a m ha => ha⟩ ?_ ?_
    · rintro i d acc cc N hd ⟨⟨ps, rfl, hl⟩, hfr⟩ hN
      walk_at "GO"
      refine ⟨C, rfl, by show 1 * C ≤ 100000; omega, by omega, fun p hp => ?_⟩
      refine hN _ _ ⟨⟨ps ++ [p], by rw [List.map_append]; rfl, by rw [List.length_append, hl]; rfl⟩, fun a m ha => ?_⟩
      rw [look_cons_ne (look_ne (hfr a m ha) hp)]
      exact hfr a m ha
    rintro acc cc ⟨⟨ps, rfl, hl⟩, hfr⟩
    intro q hq
    walk_at "GO"
    show loopW _ _ _ [] _ _
    rw [loopW]
    walk_at "GO"
    exact h q _ fun a m ha => by
      rw [look_cons_ne (look_ne (hfr a m ha) hq)]
      exact hfr a m ha in
#guard_msgs (pass all) in open Nat
def sp_House_squares : DSp := fun ds cs P _ => ∃ (h : Addr) (w hh : Int) (r : Rat) (dn : Bool) (ps ls : List StandS) (C R : Nat), ds = [.opq (.ref h), .int (C : Int), .int (R : Int)] ∧ HouseIn h (newS w hh r dn) ps ls cs ∧ StOk (newS w hh r dn) ∧ (1 ≤ C ∧ C ≤ 40) ∧ (1 ≤ R ∧ R ≤ 40) ∧ ∀ cs', HouseIn h (newS w hh r dn) ps ls cs' → HFr h cs cs' → P (.lst []) cs'
theorem r_House_squares {h : Addr} {w hh : Int} {r : Rat} {dn : Bool} {ps ls : List StandS} {C R : Nat} {cs : Cs} {P : DP} {Z : XZ} (e : HouseIn h (newS w hh r dn) ps ls cs) (ok : StOk (newS w hh r dn)) (hC : 1 ≤ C ∧ C ≤ 40) (hR : 1 ≤ R ∧ R ≤ 40) (z : ∀ cs', HouseIn h (newS w hh r dn) ps ls cs' → HFr h cs cs' → P (.lst []) cs') : sp_House_squares [.opq (.ref h), .int (C : Int), .int (R : Int)] cs P Z := ⟨h, w, hh, r, dn, ps, ls, C, R, rfl, e, ok, hC, hR, z⟩ in
#guard_msgs (pass all) in open Nat
theorem sc_House_squares : FnScope ["self", "columns", "rows", "wide", "high", "found"] ["self", "columns", "rows"] (defScope s_House_squares) := ⟨rfl, rfl, rfl, by decide +kernel, rfl, by decide +kernel, by decide +kernel⟩
theorem ok_House_squares {P : Program} {w : World} {K : PySem.W.Frag} {mg : Str → Option Value} {base : Heap} (T : Txt K mg base) : FnOk P w K mg base (L2.CX P w) 8 (He.ma K (He.ga K "House") "squares") T.fd_House_squares ["self", "columns", "rows"] (spL K 3 sp_House_squares) := by
  apply ok_def (k := 7) T.F_House_squares sc_House_squares
  case hb =>
    intro cdv A outer s H E hr
    exact (dss_cons (ds_asg (d_fld (c := "Stand") T.cl_Stand T.na_Stand_measures (d_fld (c := "House") T.cl_House T.na_House_now (d_var 0))) (dg_tup (n := 2) rfl (dgs_cons (dg_name (i := 3) sc_House_squares.nd rfl (Or.inl rfl)) (dgs_cons (dg_name (i := 4) sc_House_squares.nd rfl (Or.inl rfl)) dgs_nil))))
      (dss_cons (ds_set (i := 5) sc_House_squares.nd rfl (Or.inl rfl) (d_callN (ok_drawn T) (hr.mono (by decide)) rfl T.g_drawn T.F_drawn.kp (b_drawn T) takesD (da_cons (d_meth0 T.cl_House T.m_House_boxes (ok_House_boxes T) (hr.mono (by decide)) (b_House_boxes T) .nil (fun _ => .nil) takesD (d_var 0)) (da_cons (d_var 3) (da_cons (d_var 4) (da_cons (d_var 1) (da_cons (d_var 2) da_nil)))))))
      (dss_one (ds_ret (d_if (dt_gt (d_callB cr_lenDd adq_lenDd rfl T.n_len (by decide +kernel) (da_cons (d_fld (c := "Stand") T.cl_Stand T.na_Stand_weighed (d_fld (c := "House") T.cl_House T.na_House_now (d_var 0))) da_nil)) d_int) (d_var 5) (d_lst da_nil))))))
  case hsp =>
    skip
    rintro ds cs Q Z ⟨hh, w, g, r, dn, ps, ls, C, R, rfl, hin, ok, hC, hR, h⟩ _
    obtain ⟨dx, p, l, sh, e, hsh, ep, el, hpl⟩ := id hin
    have hw := ok.wd
    have hg := ok.hg
    show (_ : WS) (finD Q Z) [some _, some _, some _, none, none, none] _
    walk_at "GO"
    refine r_House_boxes hin fun cs1 hin1 fr1 => ?_
    obtain ⟨dx, p, l, sh, e, hsh, ep, el, hpl⟩ := id hin1
    walk_at "GO"
    refine r_drawn ⟨by omega, by omega⟩ ⟨by omega, by omega⟩ hC hR (fun q cs2 hra => ?_)
    obtain ⟨k1, k2⟩ := And.intro (hin1.more (cs1 := cs2) hra) (HFr.more hin1 (cs1 := cs2) hra)
    obtain ⟨dx2, p2, l2, sh2, e2, _⟩ := id k1
    walk_at "GO"
    rw [show (wgD (newS w g r dn).weighed).length = 0 from rfl]
    refine r_neg_ (by decide) ?_
    walk_at "GO"
    exact h _ k1 (fr1.trans k2) in
#guard_msgs (pass all) in open Nat
def sp_House___repr__ : DSp := fun ds cs P _ => ∃ (h : Addr) (s : StandS), ds = [.opq (.ref h)] ∧ HAt h s cs ∧ StOk s ∧ P (.str (houseT s.wd s.hg s.weighed.length)) cs
theorem r_House___repr__ {h : Addr} {s : StandS} {cs : Cs} {P : DP} {Z : XZ} (e : HAt h s cs) (ok : StOk s) (z : P (.str (houseT s.wd s.hg s.weighed.length)) cs) : sp_House___repr__ [.opq (.ref h)] cs P Z := ⟨h, s, rfl, e, ok, z⟩
theorem sc_House___repr__ : FnScope ["self", "wide", "high"] ["self"] (defScope s_House___repr__) := ⟨rfl, rfl, rfl, by decide +kernel, rfl, by decide +kernel, by decide +kernel⟩
theorem ok_House___repr__ {P : Program} {w : World} {K : PySem.W.Frag} {mg : Str → Option Value} {base : Heap} (T : Txt K mg base) : FnOk P w K mg base (L2.CX P w) 1 (He.ma K (He.ga K "House") "__repr__") T.fd_House___repr__ ["self"] (spL K 1 sp_House___repr__) := by
  apply ok_def (k := 0) T.F_House___repr__ sc_House___repr__
  case hb =>
    intro cdv A outer s H E hr
    exact (dss_cons (ds_asg (d_fld (c := "Stand") T.cl_Stand T.na_Stand_measures (d_fld (c := "House") T.cl_House T.na_House_now (d_var 0))) (dg_tup (n := 2) rfl (dgs_cons (dg_name (i := 1) sc_House___repr__.nd rfl (Or.inl rfl)) (dgs_cons (dg_name (i := 2) sc_House___repr__.nd rfl (Or.inl rfl)) dgs_nil))))
      (dss_one (ds_ret (d_joined (.cons d_str (.cons (d_fmt (d_var 1)) (.cons d_str (.cons (d_fmt (d_var 2)) (.cons d_str (.cons (d_fmt (d_callB cr_lenDd adq_lenDd rfl T.n_len (by decide +kernel) (da_cons (d_fld (c := "Stand") T.cl_Stand T.na_Stand_weighed (d_fld (c := "House") T.cl_House T.na_House_now (d_var 0))) da_nil))) (.cons d_str .nil)))))))))))
  case hsp =>
    skip
    rintro ds cs Q Z ⟨hh, s, rfl, ⟨dx, p, l, sh, e⟩, ok, h⟩ _
    have hw1 : s.wd.natAbs < 10 ^ 4 := by have := ok.wd; omega
    have hh1 : s.hg.natAbs < 10 ^ 4 := by have := ok.hg; omega
    have hn1 : (s.weighed.length : Int).natAbs < 10 ^ 4 := by have := ok.cnt; omega
    have l1 := numT_len (by decide) hw1
    have l2 := numT_len (by decide) hh1
    have l3 := numT_len (by decide) hn1
    have e0 : ∀ x : Str, Str.empty ++ x = x := fun x => TL.ext_tl (by rw [TL.tl_append]; rfl)
    have ln : ∀ x y : Str, (x ++ y).length = x.length + y.length := fun x y => by rw [TL.len_tl, TL.tl_append, List.length_append, ← TL.len_tl, ← TL.len_tl]
    show (_ : WS) (finD Q Z) [some _, none, none] _
    walk_at "GO"
    refine ⟨by rw [e0]; decide, ?_⟩
    rw [e0]
    walk_at "GO"
    refine ⟨log_of (n := 1900) (Nat.lt_of_lt_of_le hw1 (by decide)) (by decide), ?_⟩
    walk_at "GO"
    have k1 : ("House(" : Str).length = 6 := by decide
    refine ⟨by rw [ln]; show _ + (numT s.wd).length ≤ _; omega, ?_⟩
    walk_at "GO"
    refine ⟨by rw [ln, ln]; show _ + (numT s.wd).length + 3 ≤ _; omega, ?_⟩
    walk_at "GO"
    refine ⟨log_of (n := 1900) (Nat.lt_of_lt_of_le hh1 (by decide)) (by decide), ?_⟩
    walk_at "GO"
    refine ⟨by rw [ln, ln, ln]; show _ + (numT s.wd).length + 3 + (numT s.hg).length ≤ _; omega, ?_⟩
    walk_at "GO"
    refine ⟨by rw [ln, ln, ln, ln]; show _ + (numT s.wd).length + 3 + (numT s.hg).length + 2 ≤ _; omega, ?_⟩
    walk_at "GO"
    refine ⟨log_of (n := 1900) (Nat.lt_of_lt_of_le (by rw [show (wgD s.weighed).length = s.weighed.length from List.length_map _]; exact hn1) (by decide)) (by decide), ?_⟩
    rw [show (wgD s.weighed).length = s.weighed.length from List.length_map _]
    walk_at "GO"
    refine ⟨by rw [ln, ln, ln, ln, ln]; show _ + (numT s.wd).length + 3 + (numT s.hg).length + 2 + (numT (s.weighed.length : Int)).length ≤ _; omega, ?_⟩
    walk_at "GO"
    refine ⟨by rw [ln, ln, ln, ln, ln, ln]; show _ + (numT s.wd).length + 3 + (numT s.hg).length + 2 + (numT (s.weighed.length : Int)).length + 8 ≤ _; omega, ?_⟩
    walk_at "GO"
    exact h in
#guard_msgs (pass all) in open Nat
local macro_rules | `(tactic| walk_at "cl") => `(tactic| (first | ((with_reducible apply r_House___repr__); (walk_at "ha"); (walk_at "ok"))))
def sp_law_get : DSp := fun ds cs P _ => ∃ (p : Addr) (most : Int), ds = [.opq (.ref p), .int most] ∧ 0 < most ∧ most < 2 ^ 60 ∧ BagIn p cs ∧ ∀ r cs', 0 ≤ r → r < most → BagStep p cs cs' → P (.int r) cs'
theorem r_law_get {p : Addr} {m : Int} {cs : Cs} {P : DP} {Z : XZ} (m0 : 0 < m) (m1 : m < 2 ^ 60) (hb : BagIn p cs) (h : ∀ r cs', 0 ≤ r → r < m → BagStep p cs cs' → P (.int r) cs') : sp_law_get [.opq (.ref p), .int m] cs P Z := ⟨p, m, rfl, m0, m1, hb, h⟩
theorem sc_law_get : FnScope ["_law_bag_here", "_law_most", "_law_cell", "_law_got", "_law_before"] ["_law_bag_here", "_law_most"] (defScope s_law_get) := ⟨rfl, rfl, rfl, by decide +kernel, rfl, by decide +kernel, by decide +kernel⟩
theorem ok_law_get {P : Program} {w : World} {K : PySem.W.Frag} {mg : Str → Option Value} {base : Heap} (T : Txt K mg base) : FnOk P w K mg base (L2.CX P w) 1 (He.ga K "_law_get") T.fd_law_get ["_law_bag_here", "_law_most"] (spL K 2 sp_law_get) := by
  apply ok_def (k := 0) T.F_law_get sc_law_get
  case hb =>
    intro cdv A outer s H E hr
    exact (dss_cons (ds_if (dt_w (dw_and (dt_lt (d_ixM (d_var 0) d_int) (d_var 1)) (dw_and1 (dt_lt (d_ixM (d_var 0) d_int) (d_callB call_len_seq adq_len rfl T.n_len (by decide +kernel) (da_cons (d_ixM (d_var 0) d_int) da_nil)))))) (dss_cons (ds_set (i := 2) sc_law_get.nd rfl (Or.inl rfl) (d_sub_ix (d_ixM (d_var 0) d_int) (d_ixM (d_var 0) d_int)))
      (dss_cons (ds_setix (d_add (d_ixM (d_var 0) d_int) d_int) (d_var 0) d_int)
      (dss_cons (ds_setix (d_if (dt_ge (d_var 2) (d_pow d_int d_int)) (d_sub (d_var 2) (d_pow d_int d_int)) d_int) (d_var 0) d_int)
      (dss_one (ds_setix (d_mod (d_add (d_add (d_mul (d_ixM (d_var 0) d_int) d_int) (d_mul (d_var 2) d_int)) (d_mul d_int (d_ixM (d_var 0) d_int))) d_int) (d_var 0) d_int))))) dss_nil)
      (dss_cons (ds_if (dt_ge (d_ixM (d_var 0) d_int) (d_var 1)) (dss_cons (ds_set (i := 3) sc_law_get.nd rfl (Or.inl rfl) (d_mod (d_ixM (d_var 0) d_int) (d_var 1)))
      (dss_cons (ds_setix (d_fdiv (d_ixM (d_var 0) d_int) (d_var 1)) (d_var 0) d_int)
      (dss_one (ds_ret (d_var 3))))) dss_nil)
      (dss_cons (ds_setix (d_add (d_ixM (d_var 0) d_int) d_int) (d_var 0) d_int)
      (dss_cons (ds_set (i := 4) sc_law_get.nd rfl (Or.inl rfl) (d_ixM (d_var 0) d_int))
      (dss_cons (ds_setix (d_mod (d_add (d_add (d_add (d_mul (d_var 4) (d_var 4)) (d_mul d_int (d_var 4))) (d_mul d_int (d_ixM (d_var 0) d_int))) d_int) d_int) (d_var 0) d_int)
      (dss_one (ds_ret (d_mod (d_add (d_fdiv (d_ixM (d_var 0) d_int) d_int) (d_mul (d_fdiv (d_var 4) d_int) d_int)) (d_var 1)))))))))
  case hsp =>
    skip
    rintro ds cs Q Z ⟨p, most, rfl, m0, m1, ⟨b, hl, cells, k, rest, seed, cnt, rfl, h0, h1, h2⟩, hh⟩ _
    have h : ∀ r b, 0 ≤ r → r < most → BagOk b → Q (.int r) (put p b cs) := fun r b x1 x2 x3 => hh r _ x1 x2 ⟨⟨b, look_put hl, x3⟩, b, rfl⟩
    show (_ : WS) (finD Q Z) [some _, some _, none, none, none] _
    have dv := divOk m0 m1
    refine r_key (N := fun ρ' cs' => ∃ (c : Option D) (k1 : Nat) (rest1 seed1 : Int), ρ' = [some (.opq (.ref p)), some (.int most), c, none, none] ∧ look p cs' = some (.lst [.lst (cells.map D.int), .int (k1 : Int), .int rest1, .int seed1, .int cnt]) ∧ 0 ≤ rest1 ∧ 0 ≤ seed1 ∧ seed1 < 2147483629 ∧ ∀ r b, 0 ≤ r → r < most → BagOk b → Q (.int r) (put p b cs')) ?_ (fun nx key => ?_)
    · rintro ρ' cs' ⟨c, k1, rest1, seed1, rfl, hl', a0, a1, a2, hq⟩
      walk_at "go"
      refine ⟨fun hk => ?_, fun hk => ?_⟩
      · walk_at "go"
        exact hq _ _ (Int.emod_nonneg _ (by omega)) (Int.emod_lt_of_pos _ m0) ⟨cells, k1, rest1 / most, seed1, cnt, rfl, Int.ediv_nonneg a0 (by omega), a1, a2⟩
      · have hs : seed1.natAbs < 2 ^ 64 := by omega
        walk_at "go"
        show Q _ (put p _ (put p _ cs'))
        rw [put_put]
        refine hq _ _ (Int.emod_nonneg _ (by omega)) (Int.emod_lt_of_pos _ m0) ⟨cells, k1, rest1, _, cnt + 1, rfl, a0, Int.emod_nonneg _ (by decide), Int.emod_lt_of_pos _ (by decide)⟩
    · walk_at "go"
      refine ⟨fun hk => ?_, fun hk => ?_⟩
      · walk_at "go"
        refine ⟨fun hk2 => ?_, fun hk2 => ?_⟩
        · have hlen : (k : Int) < (cells.length : Int) := by simpa using decT hk2
          have hat : atD (cells.map D.int) (k : Int) = some (.int (cells[k]'(by omega))) := by
            refine atI_nat ?_
            rw [List.getElem?_map, List.getElem?_eq_getElem (by omega)]
            rfl
          walk_at "go"
          refine r_ixL hat ?_
          generalize cells[k]'(by omega) = cell
          walk_at "go"
          refine ⟨fun hk3 => ?_, fun hk3 => ?_⟩
          · have hc := decT hk3
            walk_at "go"
            refine key _ _ ⟨_, k + 1, _, _, rfl, look_put (look_put (look_put hl)), ?_, Int.emod_nonneg _ (by decide), Int.emod_lt_of_pos _ (by decide), fun r b x1 x2 x3 => ?_⟩
            · show (0 : Int) ≤ cell - 10 ^ 18
              have : (10 : Int) ^ 18 ≤ cell := hc
              omega
            · rw [put_put, put_put, put_put]
              exact h r b x1 x2 x3
          · walk_at "go"
            refine key _ _ ⟨_, k + 1, _, _, rfl, look_put (look_put (look_put hl)), Int.le_refl _, Int.emod_nonneg _ (by decide), Int.emod_lt_of_pos _ (by decide), fun r b x1 x2 x3 => ?_⟩
            rw [put_put, put_put, put_put]
            exact h r b x1 x2 x3
        · walk_at "go"
          exact key _ _ ⟨none, k, rest, seed, rfl, hl, h0, h1, h2, h⟩
      · walk_at "go"
        exact key _ _ ⟨none, k, rest, seed, rfl, hl, h0, h1, h2, h⟩ in
#guard_msgs (pass all) in open Nat
local macro_rules | `(tactic| walk_at "cl") => `(tactic| (first | ((with_reducible apply r_law_get); (walk_at "in"); (walk_at "in"); (walk_at "bg"))))
def sp_law_pick : DSp := fun ds cs P _ => ∃ (p : Addr) (xs : List D), (ds = [.opq (.ref p), .lst xs] ∨ ds = [.opq (.ref p), .tup xs]) ∧ 0 < xs.length ∧ xs.length < 100000 ∧ BagIn p cs ∧ ∀ x cs', x ∈ xs → BagStep p cs cs' → P x cs'
theorem r_law_pick {p : Addr} {xs : List D} {cs : Cs} {P : DP} {Z : XZ} (h0 : 0 < xs.length) (h1 : xs.length < 100000) (hb : BagIn p cs) (h : ∀ x cs', x ∈ xs → BagStep p cs cs' → P x cs') : sp_law_pick [.opq (.ref p), .lst xs] cs P Z := ⟨p, xs, .inl rfl, h0, h1, hb, h⟩
theorem sc_law_pick : FnScope ["_law_bag_here", "_law_some"] ["_law_bag_here", "_law_some"] (defScope s_law_pick) := ⟨rfl, rfl, rfl, by decide +kernel, rfl, by decide +kernel, by decide +kernel⟩
theorem ok_law_pick {P : Program} {w : World} {K : PySem.W.Frag} {mg : Str → Option Value} {base : Heap} (T : Txt K mg base) : FnOk P w K mg base (L2.CX P w) 2 (He.ga K "_law_pick") T.fd_law_pick ["_law_bag_here", "_law_some"] (spL K 2 sp_law_pick) := by
  apply ok_def (k := 1) T.F_law_pick sc_law_pick
  case hb =>
    intro cdv A outer s H E hr
    exact (dss_one (ds_ret (d_sub_ix (d_var 1) (d_callN (ok_law_get T) (hr.mono (by decide)) rfl T.g_law_get T.F_law_get.kp (b_law_get T) takesD (da_cons (d_var 0) (da_cons (d_callB call_len_seq adq_len rfl T.n_len (by decide +kernel) (da_cons (d_var 1) da_nil)) da_nil))))))
  case hsp =>
    skip
    rintro ds cs Q Z ⟨p, xs, hds, h0, h1, hb, h⟩ _
    rcases hds with rfl | rfl
    all_goals
      show (_ : WS) (finD Q Z) [some _, some _] _
      walk_at "go"
      refine ⟨p, (xs.length : Int), rfl, by omega, by omega, hb, fun r cs1 r0 r1 st => ?_⟩
      obtain ⟨x, hx, e⟩ := atD_mem r0 r1
      first
        | exact r_ixL e (h _ _ hx st)
        | exact r_ixT e (h _ _ hx st) in
#guard_msgs (pass all) in open Nat
local macro_rules | `(tactic| walk_at "cl") => `(tactic| (first | ((with_reducible apply r_law_pick); (walk_at "in"); (walk_at "in"); (walk_at "bg"))))
def sp_law_all_names : DSp := fun ds cs P _ => ∃ (w h : Int) (r : Rat) (dn : Bool), ds = [newL w h r dn] ∧ P (.lst []) cs
theorem r_law_all_names {w h : Int} {r : Rat} {dn : Bool} {cs : Cs} {P : DP} {Z : XZ} (z : P (.lst []) cs) : sp_law_all_names [newL w h r dn] cs P Z := ⟨w, h, r, dn, rfl, z⟩
theorem sc_law_all_names : FnScope ["_law_state", "_law_name"] ["_law_state"] (defScope s_law_all_names) := ⟨rfl, rfl, rfl, by decide +kernel, rfl, by decide +kernel, by decide +kernel⟩
theorem ok_law_all_names {P : Program} {w : World} {K : PySem.W.Frag} {mg : Str → Option Value} {base : Heap} (T : Txt K mg base) : FnOk P w K mg base (L2.CX P w) 1 (He.ga K "_law_all_names") T.fd_law_all_names ["_law_state"] (spL K 1 sp_law_all_names) := by
  apply ok_def (k := 0) T.F_law_all_names sc_law_all_names
  case hb =>
    intro cdv A outer s H E hr
    exact (dss_one (ds_ret (d_callB cr_sortedS adq_sortLS rfl T.n_sorted (by decide +kernel) (da_cons (d_catL (d_callTy (cr_listDD rfl) adq_listDD rfl T.n_list (by decide +kernel) (da_cons (d_getD hr.units (d_var 0) d_str) da_nil)) (d_lc rfl sc_law_all_names.nd (di_keys (d_getD hr.units (d_var 0) d_str)) (blkOk_by (own := [("_law_name", 1)]) (N := ["_law_state", "_law_name"]) (sc := defScope s_law_all_names) (by decide +kernel)) (gok_name (by decide)) (fun _ _ _ _ _ => (pg_name (i := 1) sc_law_all_names.nd rfl (Or.inl rfl))) (fun _ _ _ _ _ => (dts_one (dt_ne hr.units (d_var 1) d_str))) (fun _ _ _ _ _ => (d_var 1)))) da_nil))))
  case hsp =>
    skip
    rintro ds cs Q Z ⟨w, hh, r, dn, rfl, h⟩ _
    show (_ : WS) (finD Q Z) [some _, none] _
    walk_at "GO"
    refine ⟨(show 1 ≤ 100000 by decide), ?_⟩
    refine r_cfmE (l := [("" : Str)]) (g := D.str) rfl (fun y => decide (y ≠ ("" : Str))) D.str (fun y N N' hm n1 n2 => ?_) ?_
    · walk_at "GO"
      refine ⟨fun q1 => ?_, fun q1 => n2 (by simpa using q1)⟩
      walk_at "GO"
      exact n1 (by simpa using q1)
    refine r_catLL (by decide) ?_
    walk_at "GO"
    refine r_sortLS (ks := []) (by decide) ?_
    rw [show sortN [] = [] from List.mergeSort_nil]
    exact h in
#guard_msgs (pass all) in open Nat
local macro_rules | `(tactic| walk_at "cl") => `(tactic| (first | with_reducible refine r_law_all_names ?_))
def sp_law_order : DSp := fun _ _ _ _ => False
theorem ok_law_order {P : Program} {w : World} {K : PySem.W.Frag} {mg : Str → Option Value} {base : Heap} (T : Txt K mg base) : FnOk P w K mg base (L2.CX P w) 1 (He.ga K "_law_order") T.fd_law_order ["_law_state", "_law_nest"] (spL K 2 sp_law_order) := vacF
def sp_law_inside : Nat → DSp
  | 0 => fun _ _ _ _ => False
  | _ + 1 => fun ds cs P _ => ∃ (w h : Int) (r : Rat) (dn : Bool), ds = [newL w h r dn, .str ""] ∧ P (.lst []) cs
theorem r_law_inside {n : Nat} {w h : Int} {r : Rat} {dn : Bool} {cs : Cs} {P : DP} {Z : XZ} (z : P (.lst []) cs) : sp_law_inside (n + 1) [newL w h r dn, .str ""] cs P Z := ⟨w, h, r, dn, rfl, z⟩
theorem sc_law_inside : FnScope ["_law_state", "_law_name", "_law_found", "_law_one"] ["_law_state", "_law_name"] (defScope s_law_inside) := ⟨rfl, rfl, rfl, by decide +kernel, rfl, by decide +kernel, by decide +kernel⟩
theorem ok_law_inside {P : Program} {w : World} {K : PySem.W.Frag} {mg : Str → Option Value} {base : Heap} (T : Txt K mg base) (n : Nat) : FnOk P w K mg base (L2.CX P w) (n + 1) (He.ga K "_law_inside") T.fd_law_inside ["_law_state", "_law_name"] (spL K 2 (sp_law_inside n)) := by
  induction n with
  | zero => exact vacF
  | succ n G =>
  rw [show n + 1 + 1 = (n + 1) + 1 from by omega]
  apply ok_def (k := n + 1) T.F_law_inside sc_law_inside
  case hb =>
    intro cdv A outer s H E hr
    exact (dss_cons (ds_set (i := 2) sc_law_inside.nd rfl (Or.inl rfl) (d_lst da_nil))
      (dss_cons (ds_for passD rfl (di_list (d_if (dt_inD hr.units (d_var 1) (d_getD hr.units (d_var 0) d_str)) (d_sub_ix (d_getD hr.units (d_getD hr.units (d_var 0) d_str) (d_var 1)) d_int) (d_lst da_nil))) (dg_name (i := 3) sc_law_inside.nd rfl (Or.inl rfl)) (dss_one (ds_set (i := 2) sc_law_inside.nd rfl (Or.inl rfl) (d_catL (d_catL (d_var 2) (d_lst (da_cons (d_var 3) da_nil))) (d_callN G hr rfl T.g_law_inside T.F_law_inside.kp (b_law_inside T) takesD (da_cons (d_var 0) (da_cons (d_var 3) da_nil)))))))
      (dss_one (ds_ret (d_var 2)))))
  case hsp =>
    skip
    rintro ds cs Q Z ⟨w, hh, r, dn, rfl, h⟩ _
    show (_ : WS) (finD Q Z) [some _, some _, none, none] _
    walk_at "GO"
    rw [show (lk [((Sum.inr ("" : Str) : Key), D.tup [sideD dn, .lst [], .lst []])] (Sum.inr ("" : Str))).isSome = true from by rw [lk, if_pos rfl]; rfl]
    walk_at "GO"
    exact h in
#guard_msgs (pass all) in open Nat
local macro_rules | `(tactic| walk_at "cl") => `(tactic| (first | with_reducible refine r_law_inside ?_))
def sp_law_weigh : DSp := fun ds cs P _ => ∃ (w h : Int) (r : Rat) (dn : Bool), ds = [newL w h r dn, .str ""] ∧ P (.int 0) cs
theorem r_law_weigh {w h : Int} {r : Rat} {dn : Bool} {cs : Cs} {P : DP} {Z : XZ} (z : P (.int 0) cs) : sp_law_weigh [newL w h r dn, .str ""] cs P Z := ⟨w, h, r, dn, rfl, z⟩
theorem sc_law_weigh : FnScope ["_law_state", "_law_name", "_law_one"] ["_law_state", "_law_name"] (defScope s_law_weigh) := ⟨rfl, rfl, rfl, by decide +kernel, rfl, by decide +kernel, by decide +kernel⟩
theorem ok_law_weigh {P : Program} {w : World} {K : PySem.W.Frag} {mg : Str → Option Value} {base : Heap} (T : Txt K mg base) : FnOk P w K mg base (L2.CX P w) 3 (He.ga K "_law_weigh") T.fd_law_weigh ["_law_state", "_law_name"] (spL K 2 sp_law_weigh) := by
  apply ok_def (k := 2) T.F_law_weigh sc_law_weigh
  case hb =>
    intro cdv A outer s H E hr
    exact (dss_one (ds_ret (d_callB (cr_sumA rfl) adq_sumA rfl T.n_sum (by decide +kernel) (da_cons (d_lc rfl sc_law_weigh.nd (di_list (d_catL (d_lst (da_cons (d_var 1) da_nil)) (d_callN (ok_law_inside T 1) (hr.mono (by decide)) rfl T.g_law_inside T.F_law_inside.kp (b_law_inside T) takesD (da_cons (d_var 0) (da_cons (d_var 1) da_nil))))) (blkOk_by (own := [("_law_one", 2)]) (N := ["_law_state", "_law_name", "_law_one"]) (sc := defScope s_law_weigh) (by decide +kernel)) (gok_name (by decide)) (fun _ _ _ _ _ => (pg_name (i := 2) sc_law_weigh.nd rfl (Or.inl rfl))) (fun _ _ _ _ _ => dts_nil) (fun _ _ _ _ _ => (d_get2D hr.units (d_getD hr.units (d_var 0) d_str) (d_var 2) d_int))) da_nil))))
  case hsp =>
    skip
    rintro ds cs Q Z ⟨w, hh, r, dn, rfl, h⟩ _
    show (_ : WS) (finD Q Z) [some _, some _, none] _
    walk_at "GO"
    refine ⟨by decide, ?_⟩
    refine r_cmE (l := [("" : Str)]) (g := D.str) rfl (fun _ => D.int 0) (fun y N N' hm n1 => ?_) ?_
    · walk_at "GO"
      rw [lk]
      exact n1
    walk_at "GO"
    refine r_sumL (ns := [0]) ?_
    exact h in
#guard_msgs (pass all) in open Nat
local macro_rules | `(tactic| walk_at "cl") => `(tactic| (first | with_reducible refine r_law_weigh ?_))
def sp_law_boxes_in : DSp := fun _ _ _ _ => False
theorem ok_law_boxes_in {P : Program} {w : World} {K : PySem.W.Frag} {mg : Str → Option Value} {base : Heap} (T : Txt K mg base) : FnOk P w K mg base (L2.CX P w) 1 (He.ga K "_law_boxes_in") T.fd_law_boxes_in ["_law_state", "_law_nest", "_law_box"] (spL K 3 sp_law_boxes_in) := vacF
def sp_law_boxes : DSp := fun ds cs P _ => ∃ (w h : Int) (r : Rat) (dn : Bool), ds = [newL w h r dn] ∧ P (.dic []) cs
theorem r_law_boxes {w h : Int} {r : Rat} {dn : Bool} {cs : Cs} {P : DP} {Z : XZ} (z : P (.dic []) cs) : sp_law_boxes [newL w h r dn] cs P Z := ⟨w, h, r, dn, rfl, z⟩
theorem sc_law_boxes : FnScope ["_law_state", "_law_found", "_law_nest", "_law_name", "_law_box"] ["_law_state"] (defScope s_law_boxes) := ⟨rfl, rfl, rfl, by decide +kernel, rfl, by decide +kernel, by decide +kernel⟩
theorem ok_law_boxes {P : Program} {w : World} {K : PySem.W.Frag} {mg : Str → Option Value} {base : Heap} (T : Txt K mg base) : FnOk P w K mg base (L2.CX P w) 4 (He.ga K "_law_boxes") T.fd_law_boxes ["_law_state"] (spL K 1 sp_law_boxes) := by
  apply ok_def (k := 3) T.F_law_boxes sc_law_boxes
  case hb =>
    intro cdv A outer s H E hr
    exact (dss_cons (ds_if (dt_eq hr.units (d_callN (ok_law_weigh T) (hr.mono (by decide)) rfl T.g_law_weigh T.F_law_weigh.kp (b_law_weigh T) takesD (da_cons (d_var 0) (da_cons d_str da_nil))) d_int) (dss_one (ds_ret (d_lockD d_newK))) dss_nil)
      (dss_cons (ds_set (i := 1) sc_law_boxes.nd rfl (Or.inl rfl) (d_oneK d_str (d_tup (da_cons (d_tup (da_cons d_int (da_cons d_int da_nil))) (da_cons (d_tup (da_cons d_int (da_cons d_int da_nil))) (da_cons (d_tup (da_cons (d_sub_ix (d_getD hr.units (d_var 0) d_str) d_int) (da_cons d_int da_nil))) (da_cons (d_tup (da_cons (d_sub_ix (d_getD hr.units (d_var 0) d_str) d_int) (da_cons d_int da_nil))) da_nil)))))))
      (dss_cons (ds_for passD rfl (di_list (d_callN (ok_law_order T) (hr.mono (by decide)) rfl T.g_law_order T.F_law_order.kp (b_law_order T) takesD (da_cons (d_var 0) (da_cons d_str da_nil)))) (dg_name (i := 2) sc_law_boxes.nd rfl (Or.inl rfl)) (dss_one (ds_if (dt_inD hr.units (d_var 2) (d_var 1)) (dss_one (ds_for passD rfl (di_list (d_callN (ok_law_boxes_in T) (hr.mono (by decide)) rfl T.g_law_boxes_in T.F_law_boxes_in.kp (b_law_boxes_in T) takesD (da_cons (d_var 0) (da_cons (d_var 2) (da_cons (d_getD hr.units (d_var 1) (d_var 2)) da_nil))))) (dg_tup (n := 2) rfl (dgs_cons (dg_name (i := 3) sc_law_boxes.nd rfl (Or.inl rfl)) (dgs_cons (dg_name (i := 4) sc_law_boxes.nd rfl (Or.inl rfl)) dgs_nil))) (dss_one (ds_setDK hr.units (d_var 4) (d_var 1) (d_var 3))))) dss_nil)))
      (dss_one (ds_ret (d_lockD (d_var 1)))))))
  case hsp =>
    skip
    rintro ds cs Q Z ⟨w, hh, r, dn, rfl, h⟩ _
    show (_ : WS) (finD Q Z) [some _, none, none, none, none] _
    walk_at "GO"
    refine r_pos rfl ?_
    walk_at "GO"
    intro p hp
    refine r_lockK ?_
    exact h in
#guard_msgs (pass all) in open Nat
local macro_rules | `(tactic| walk_at "cl") => `(tactic| (first | with_reducible refine r_law_boxes ?_))
def sp_law_same : Nat → DSp
  | 0 => fun _ _ _ _ => False
  | n + 1 => fun ds cs P _ => ∃ d, ds = [d, d] ∧ n ≤ 10 ∧ smD n d = true ∧ P (.bl true) cs
theorem r_law_same {d : D} {cs : Cs} {P : DP} {Z : XZ} (hd : smD 6 d = true) (h : P (.bl true) cs) : sp_law_same 7 [d, d] cs P Z := ⟨d, rfl, by decide, hd, h⟩
theorem sc_law_same : FnScope ["_law_found", "_law_due", "_law_key_now", "_law_one", "_law_other"] ["_law_found", "_law_due"] (defScope s_law_same) := ⟨rfl, rfl, rfl, by decide +kernel, rfl, by decide +kernel, by decide +kernel⟩
theorem ok_law_same {P : Program} {w : World} {K : PySem.W.Frag} {mg : Str → Option Value} {base : Heap} (T : Txt K mg base) (n : Nat) : FnOk P w K mg base (L2.CX P w) (n + 1) (He.ga K "_law_same") T.fd_law_same ["_law_found", "_law_due"] (spL K 2 (sp_law_same n)) := by
  induction n with
  | zero => exact vacF
  | succ n G =>
  rw [show n + 1 + 1 = (n + 1) + 1 from by omega]
  apply ok_def (k := n + 1) T.F_law_same sc_law_same
  case hb =>
    intro cdv A outer s H E hr
    exact (dss_cons (ds_if (dt_val (d_callB call_isi adq_isi rfl T.n_isinstance (by decide +kernel) (da_cons (d_var 1) (da_cons (d_ty (n := "dict") rfl T.n_dict (by decide +kernel)) da_nil)))) (dss_cons (ds_if (dt_w (dw_or (dt_not (dt_val (d_callB call_isi adq_isi rfl T.n_isinstance (by decide +kernel) (da_cons (d_var 0) (da_cons (d_ty (n := "dict") rfl T.n_dict (by decide +kernel)) da_nil))))) (dw_or1 (dt_ne hr.units (d_callTy (cr_listDD rfl) adq_listDD rfl T.n_list (by decide +kernel) (da_cons (d_var 0) da_nil)) (d_callTy (cr_listDD rfl) adq_listDD rfl T.n_list (by decide +kernel) (da_cons (d_var 1) da_nil)))))) (dss_one (ds_ret d_bl)) dss_nil)
      (dss_one (ds_ret (d_callB (cr_all rfl) adq_all rfl T.n_all (by decide +kernel) (da_cons (d_lc rfl sc_law_same.nd (di_keys (d_var 1)) (blkOk_by (own := [("_law_key_now", 2)]) (N := ["_law_found", "_law_due", "_law_key_now", "_law_one", "_law_other"]) (sc := defScope s_law_same) (by decide +kernel)) (gok_name (by decide)) (fun _ _ _ _ _ => (pg_name (i := 2) sc_law_same.nd rfl (Or.inl rfl))) (fun _ _ _ _ _ => dts_nil) (fun _ _ _ _ _ => (d_callN G hr rfl T.g_law_same T.F_law_same.kp (b_law_same T) takes0 (da_cons (d_getD hr.units (d_var 0) (d_var 2)) (da_cons (d_getD hr.units (d_var 1) (d_var 2)) da_nil))))) da_nil))))) dss_nil)
      (dss_cons (ds_if (dt_val (d_callB call_isiD adq_isiT rfl T.n_isinstance (by decide +kernel) (da_cons (d_var 1) (da_cons (d_tup (da_cons (d_ty (n := "list") rfl T.n_list (by decide +kernel)) (da_cons (d_ty (n := "tuple") rfl T.n_tuple (by decide +kernel)) da_nil))) da_nil)))) (dss_cons (ds_if (dt_w (dw_or (dt_ne hr.units (d_callB call_isi adq_isi rfl T.n_isinstance (by decide +kernel) (da_cons (d_var 0) (da_cons (d_ty (n := "tuple") rfl T.n_tuple (by decide +kernel)) da_nil))) (d_callB call_isi adq_isi rfl T.n_isinstance (by decide +kernel) (da_cons (d_var 1) (da_cons (d_ty (n := "tuple") rfl T.n_tuple (by decide +kernel)) da_nil)))) (dw_or1 (dt_ne hr.units (d_callB call_isi adq_isi rfl T.n_isinstance (by decide +kernel) (da_cons (d_var 0) (da_cons (d_ty (n := "list") rfl T.n_list (by decide +kernel)) da_nil))) (d_callB call_isi adq_isi rfl T.n_isinstance (by decide +kernel) (da_cons (d_var 1) (da_cons (d_ty (n := "list") rfl T.n_list (by decide +kernel)) da_nil))))))) (dss_one (ds_ret d_bl)) dss_nil)
      (dss_one (ds_ret (d_and (d_eq hr.units (d_callB call_len_seq adq_len rfl T.n_len (by decide +kernel) (da_cons (d_var 0) da_nil)) (d_callB call_len_seq adq_len rfl T.n_len (by decide +kernel) (da_cons (d_var 1) da_nil))) (d_one (d_callB (cr_all rfl) adq_all rfl T.n_all (by decide +kernel) (da_cons (d_lc rfl sc_law_same.nd (di_zip rfl T.n_zip (da_cons (d_var 0) (da_cons (d_var 1) da_nil))) (blkOk_by (own := [("_law_one", 3), ("_law_other", 4)]) (N := ["_law_found", "_law_due", "_law_key_now", "_law_one", "_law_other"]) (sc := defScope s_law_same) (by decide +kernel)) (gok_two (by decide) (by decide)) (fun _ _ _ _ _ => (pg_tup (n := 2) rfl (pgs_cons (pg_name (i := 3) sc_law_same.nd rfl (Or.inl rfl)) (pgs_cons (pg_name (i := 4) sc_law_same.nd rfl (Or.inl rfl)) pgs_nil)))) (fun _ _ _ _ _ => dts_nil) (fun _ _ _ _ _ => (d_callN G hr rfl T.g_law_same T.F_law_same.kp (b_law_same T) takes0 (da_cons (d_var 3) (da_cons (d_var 4) da_nil))))) da_nil))))))) dss_nil)
      (dss_cons (ds_if (dt_w (dw_or (dt_ne hr.units (d_callB call_isi adq_isi rfl T.n_isinstance (by decide +kernel) (da_cons (d_var 1) (da_cons (d_ty (n := "bool") rfl T.n_bool (by decide +kernel)) da_nil))) (d_callB call_isi adq_isi rfl T.n_isinstance (by decide +kernel) (da_cons (d_var 0) (da_cons (d_ty (n := "bool") rfl T.n_bool (by decide +kernel)) da_nil)))) (dw_or1 (dt_ne hr.units (d_callB call_isi adq_isi rfl T.n_isinstance (by decide +kernel) (da_cons (d_var 1) (da_cons (d_ty (n := "str") rfl T.n_str (by decide +kernel)) da_nil))) (d_callB call_isi adq_isi rfl T.n_isinstance (by decide +kernel) (da_cons (d_var 0) (da_cons (d_ty (n := "str") rfl T.n_str (by decide +kernel)) da_nil))))))) (dss_one (ds_ret d_bl)) dss_nil)
      (dss_cons (ds_if (dt_ne hr.units (d_callB call_isi adq_isi rfl T.n_isinstance (by decide +kernel) (da_cons (d_var 1) (da_cons (d_ty (n := "int") rfl T.n_int (by decide +kernel)) da_nil))) (d_callB call_isi adq_isi rfl T.n_isinstance (by decide +kernel) (da_cons (d_var 0) (da_cons (d_ty (n := "int") rfl T.n_int (by decide +kernel)) da_nil)))) (dss_one (ds_ret d_bl)) dss_nil)
      (dss_one (ds_ret (d_and (d_eq hr.units (d_is (d_var 1) d_non) (d_is (d_var 0) d_non)) (d_one (d_eq hr.units (d_var 0) (d_var 1))))))))))
  case hsp =>
    skip
    rintro ds cs Q Z ⟨d, rfl, hn, hd, h⟩ _
    show (_ : WS) (finD Q Z) [some _, some _, none, none, none] _
    have done_ : ∀ (m : Nat) (xs : List D), xs.all (smD m) = true → ∀ x ∈ List.zipWith (fun d e => D.tup [d, e]) xs xs, ∃ y, x = .tup [y, y] ∧ smD m y = true := by
      intro m xs hx x hm
      rw [List.zipWith_self] at hm
      obtain ⟨y, hy, rfl⟩ := List.mem_map.mp hm
      exact ⟨y, rfl, List.all_eq_true.mp hx y hy⟩
    cases n with
    | zero => cases hd
    | succ m =>
      by_cases hdic : ∃ kvs, d = .dic kvs
      · obtain ⟨kvs, rfl⟩ := hdic
        have hd : (decide (kvs.length ≤ 1000) && decide ((kvs.map (·.1)).Nodup) && kvs.all fun q => smD m q.2) = true := hd
        obtain ⟨h1, h3⟩ := Bool.and_eq_true_iff.mp hd
        obtain ⟨h1, h2⟩ := Bool.and_eq_true_iff.mp h1
        have h1 := of_decide_eq_true h1
        have h2 := of_decide_eq_true h2
        have h3 := List.all_eq_true.mp h3
        have hp := plD_keys h1
        walk_at "GO"
        refine ⟨hp, hp, ?_⟩
        rw [eqD_refl _ 20 hp]
        walk_at "GO"
        refine ⟨by rw [List.length_map]; omega, ?_⟩
        refine r_cmE (l := kvs) (g := fun p => kD p.1) rfl (fun _ => D.bl true) (fun q N N' hm n1 => ?_) ?_
        · have hl := lk_mem h2 (show (q.1, q.2) ∈ kvs from hm)
          walk_at "GO"
          refine r_getkD hl ?_
          walk_at "GO"
          refine r_getkD hl ?_
          walk_at "GO"
          exact ⟨q.2, rfl, by omega, h3 q hm, n1⟩
        walk_at "GO"
        refine r_all (ns := List.replicate kvs.length true) (by rw [List.map_const', show List.replicate kvs.length (D.bl true) = (List.replicate kvs.length true).map D.bl from (List.map_replicate).symm]; exact blsOf_map _) ?_
        rw [List.all_replicate]
        simpa using h
      · cases d <;> try first
          | exact absurd ⟨_, rfl⟩ hdic
          | (simp [smD, plD] at hd; done)
          | (walk_at "GO"; first | exact h | (simpa using h) | (refine r_eqSelf (plD_mono _ (show plD 1 _ = true from hd) (by decide)) ?_; exact h))
        all_goals
          rename_i xs hlen
          have hd : (decide (xs.length ≤ 100000) && xs.all (smD m)) = true := hd
          obtain ⟨hz, hd⟩ := Bool.and_eq_true_iff.mp hd
          have hz := of_decide_eq_true hz
          have key := done_ m xs hd
          walk_at "GO"
          refine ⟨fun _ => ?_, fun z => absurd (show (xs.length : Int) = xs.length from rfl) (decF z)⟩
          walk_at "GO"
          refine ⟨by rw [List.length_zipWith]; omega, ?_⟩
          refine r_compM (fun _ => .bl true) (fun d N N' hd hN => ?_) ?_
          · obtain ⟨y, rfl, hy⟩ := key d hd
            walk_at "GO"
            exact ⟨y, rfl, by omega, hy, hN⟩
          walk_at "GO"
          refine r_all (ns := List.replicate (List.zipWith (fun d e => D.tup [d, e]) xs xs).length true) (by rw [show (List.zipWith (fun d e => D.tup [d, e]) xs xs).map (fun _ => D.bl true) = (List.replicate (List.zipWith (fun d e => D.tup [d, e]) xs xs).length true).map D.bl by rw [List.map_replicate]; exact List.map_const']; exact blsOf_map _) ?_
          rw [List.all_replicate]
          simpa using h in
#guard_msgs (pass all) in open Nat
local macro_rules | `(tactic| walk_at "cl") => `(tactic| (first | ((with_reducible apply r_law_same); (walk_at "sm"))))
def sp_House___len__ : DSp := fun ds cs P _ => ∃ (h : Addr) (s : StandS), ds = [.opq (.ref h)] ∧ HAt h s cs ∧ P (.int s.weighed.length) cs
theorem r_House___len__ {h : Addr} {s : StandS} {cs : Cs} {P : DP} {Z : XZ} (e : HAt h s cs) (z : P (.int s.weighed.length) cs) : sp_House___len__ [.opq (.ref h)] cs P Z := ⟨h, s, rfl, e, z⟩
theorem sc_House___len__ : FnScope ["self"] ["self"] (defScope s_House___len__) := ⟨rfl, rfl, rfl, by decide +kernel, rfl, by decide +kernel, by decide +kernel⟩
theorem ok_House___len__ {P : Program} {w : World} {K : PySem.W.Frag} {mg : Str → Option Value} {base : Heap} (T : Txt K mg base) : FnOk P w K mg base (L2.CX P w) 1 (He.ma K (He.ga K "House") "__len__") T.fd_House___len__ ["self"] (spL K 1 sp_House___len__) := by
  apply ok_def (k := 0) T.F_House___len__ sc_House___len__
  case hb =>
    intro cdv A outer s H E hr
    exact (dss_one (ds_ret (d_callB cr_lenDd adq_lenDd rfl T.n_len (by decide +kernel) (da_cons (d_fld (c := "Stand") T.cl_Stand T.na_Stand_weighed (d_fld (c := "House") T.cl_House T.na_House_now (d_var 0))) da_nil))))
  case hsp =>
    skip
    rintro ds cs Q Z ⟨hh, s, rfl, ⟨dx, p, l, sh, e⟩, h⟩ _
    show (_ : WS) (finD Q Z) [some _] _
    walk_at "GO"
    rw [wgD, List.length_map]
    exact h in
#guard_msgs (pass all) in open Nat
local macro_rules | `(tactic| walk_at "cl") => `(tactic| (first | ((with_reducible apply r_House___len__); (walk_at "ha"))))
def sp_House_names : DSp := fun ds cs P _ => ∃ (h : Addr) (s : StandS), ds = [.opq (.ref h)] ∧ HAt h s cs ∧ StOk s ∧ P (.lst (s.names.map D.str)) cs
theorem r_House_names {h : Addr} {s : StandS} {cs : Cs} {P : DP} {Z : XZ} (e : HAt h s cs) (ok : StOk s) (z : P (.lst (s.names.map D.str)) cs) : sp_House_names [.opq (.ref h)] cs P Z := ⟨h, s, rfl, e, ok, z⟩
theorem sc_House_names : FnScope ["self", "name"] ["self"] (defScope s_House_names) := ⟨rfl, rfl, rfl, by decide +kernel, rfl, by decide +kernel, by decide +kernel⟩
theorem ok_House_names {P : Program} {w : World} {K : PySem.W.Frag} {mg : Str → Option Value} {base : Heap} (T : Txt K mg base) : FnOk P w K mg base (L2.CX P w) 1 (He.ma K (He.ga K "House") "names") T.fd_House_names ["self"] (spL K 1 sp_House_names) := by
  apply ok_def (k := 0) T.F_House_names sc_House_names
  case hb =>
    intro cdv A outer s H E hr
    exact (dss_one (ds_ret (d_callB cr_sortedS adq_sortLS rfl T.n_sorted (by decide +kernel) (da_cons (d_catL (d_callTy (cr_listDD rfl) adq_listDD rfl T.n_list (by decide +kernel) (da_cons (d_fld (c := "Stand") T.cl_Stand T.na_Stand_weighed (d_fld (c := "House") T.cl_House T.na_House_now (d_var 0))) da_nil)) (d_lc rfl sc_House_names.nd (di_keys (d_fld (c := "Stand") T.cl_Stand T.na_Stand_held (d_fld (c := "House") T.cl_House T.na_House_now (d_var 0)))) (blkOk_by (own := [("name", 1)]) (N := ["self", "name"]) (sc := defScope s_House_names) (by decide +kernel)) (gok_name (by decide)) (fun _ _ _ _ _ => (pg_name (i := 1) sc_House_names.nd rfl (Or.inl rfl))) (fun _ _ _ _ _ => (dts_one (dt_ne hr.units (d_var 1) d_str))) (fun _ _ _ _ _ => (d_var 1)))) da_nil))))
  case hsp =>
    skip
    rintro ds cs Q Z ⟨hh, s, rfl, ⟨dx, p, l, sh, e⟩, ok, h⟩ _
    have e1 : (wgD s.weighed).map (fun p => kD p.1) = (s.weighed.map (·.1)).map D.str := by unfold wgD; rw [List.map_map, List.map_map]; rfl
    have e2 : (hdD s.held).map (fun p => kD p.1) = (s.held.map (·.1)).map D.str := by unfold hdD; rw [List.map_map, List.map_map]; rfl
    have e3 : (wgD s.weighed).map (fun p => kD p.1) ++ ((s.held.map (·.1)).filter fun x : Str => decide (x ≠ ("" : Str))).map D.str = (s.weighed.map (·.1) ++ (s.held.map (·.1)).filter fun x : Str => decide (x ≠ ("" : Str))).map D.str := by rw [e1, List.map_append]
    have hc := ok.cnt
    have hf := List.length_filter_le (fun x : Str => decide (x ≠ ("" : Str))) (s.held.map (·.1))
    have hl0 : (s.held.map (·.1)).length = s.held.length := List.length_map _
    show (_ : WS) (finD Q Z) [some _, none] _
    walk_at "GO"
    refine ⟨by rw [List.length_map]; unfold hdD; rw [List.length_map]; omega, ?_⟩
    refine r_cfmE (l := s.held.map (·.1)) (g := D.str) e2 (fun y => decide (y ≠ ("" : Str))) D.str (fun y N N' hm n1 n2 => ?_) ?_
    · walk_at "GO"
      refine ⟨fun q1 => ?_, fun q1 => n2 (by simpa using q1)⟩
      walk_at "GO"
      exact n1 (by simpa using q1)
    refine r_catLL (by rw [e1, List.length_map, List.length_map, List.length_map]; omega) ?_
    walk_at "GO"
    rw [e3]
    refine r_sortLS (by rw [List.length_append, List.length_map]; omega) ?_
    exact h in
#guard_msgs (pass all) in open Nat
local macro_rules | `(tactic| walk_at "cl") => `(tactic| (first | ((with_reducible apply r_House_names); (walk_at "ha"); (walk_at "ok"))))
def sp_House_size : DSp := fun ds cs P _ => ∃ (h : Addr) (s : StandS), ds = [.opq (.ref h)] ∧ HAt h s cs ∧ P (.tup [.int s.wd, .int s.hg]) cs
theorem r_House_size {h : Addr} {s : StandS} {cs : Cs} {P : DP} {Z : XZ} (e : HAt h s cs) (z : P (.tup [.int s.wd, .int s.hg]) cs) : sp_House_size [.opq (.ref h)] cs P Z := ⟨h, s, rfl, e, z⟩
theorem sc_House_size : FnScope ["self"] ["self"] (defScope s_House_size) := ⟨rfl, rfl, rfl, by decide +kernel, rfl, by decide +kernel, by decide +kernel⟩
theorem ok_House_size {P : Program} {w : World} {K : PySem.W.Frag} {mg : Str → Option Value} {base : Heap} (T : Txt K mg base) : FnOk P w K mg base (L2.CX P w) 1 (He.ma K (He.ga K "House") "size") T.fd_House_size ["self"] (spL K 1 sp_House_size) := by
  apply ok_def (k := 0) T.F_House_size sc_House_size
  case hb =>
    intro cdv A outer s H E hr
    exact (dss_one (ds_ret (d_fld (c := "Stand") T.cl_Stand T.na_Stand_measures (d_fld (c := "House") T.cl_House T.na_House_now (d_var 0)))))
  case hsp =>
    skip
    rintro ds cs Q Z ⟨hh, s, rfl, ⟨dx, p, l, sh, e⟩, h⟩ _
    show (_ : WS) (finD Q Z) [some _] _
    walk_at "GO"
    exact h in
#guard_msgs (pass all) in open Nat
local macro_rules | `(tactic| walk_at "cl") => `(tactic| (first | ((with_reducible apply r_House_size); (walk_at "ha"))))
def sp_House_bound : DSp := fun ds cs P _ => ∃ (h : Addr) (s : StandS), ds = [.opq (.ref h)] ∧ HAt h s cs ∧ P (dR s.most) cs
theorem r_House_bound {h : Addr} {s : StandS} {cs : Cs} {P : DP} {Z : XZ} (e : HAt h s cs) (z : P (dR s.most) cs) : sp_House_bound [.opq (.ref h)] cs P Z := ⟨h, s, rfl, e, z⟩
theorem sc_House_bound : FnScope ["self"] ["self"] (defScope s_House_bound) := ⟨rfl, rfl, rfl, by decide +kernel, rfl, by decide +kernel, by decide +kernel⟩
theorem ok_House_bound {P : Program} {w : World} {K : PySem.W.Frag} {mg : Str → Option Value} {base : Heap} (T : Txt K mg base) : FnOk P w K mg base (L2.CX P w) 1 (He.ma K (He.ga K "House") "bound") T.fd_House_bound ["self"] (spL K 1 sp_House_bound) := by
  apply ok_def (k := 0) T.F_House_bound sc_House_bound
  case hb =>
    intro cdv A outer s H E hr
    exact (dss_one (ds_ret (d_fld (c := "Stand") T.cl_Stand T.na_Stand_most (d_fld (c := "House") T.cl_House T.na_House_now (d_var 0)))))
  case hsp =>
    skip
    rintro ds cs Q Z ⟨hh, s, rfl, ⟨dx, p, l, sh, e⟩, h⟩ _
    show (_ : WS) (finD Q Z) [some _] _
    walk_at "GO"
    exact h in
#guard_msgs (pass all) in open Nat
local macro_rules | `(tactic| walk_at "cl") => `(tactic| (first | ((with_reducible apply r_House_bound); (walk_at "ha"))))
def sp_Stand_known : DSp := fun ds cs P _ => ∃ (s : StandS) (x : Str), ds = [s.d, .str x] ∧ P (.bl (s.known x)) cs
theorem r_Stand_known {s : StandS} {x : Str} {cs : Cs} {P : DP} {Z : XZ} (h : P (.bl (s.known x)) cs) : sp_Stand_known [s.d, .str x] cs P Z := ⟨s, x, rfl, h⟩
theorem sc_Stand_known : FnScope ["self", "name"] ["self", "name"] (defScope s_Stand_known) := ⟨rfl, rfl, rfl, by decide +kernel, rfl, by decide +kernel, by decide +kernel⟩
theorem ok_Stand_known {P : Program} {w : World} {K : PySem.W.Frag} {mg : Str → Option Value} {base : Heap} (T : Txt K mg base) : FnOk P w K mg base (L2.CX P w) 1 (He.ma K (He.ga K "Stand") "known") T.fd_Stand_known ["self", "name"] (spL K 2 sp_Stand_known) := by
  apply ok_def (k := 0) T.F_Stand_known sc_Stand_known
  case hb =>
    intro cdv A outer s H E hr
    exact (dss_one (ds_ret (d_and (d_callB call_isi adq_isi rfl T.n_isinstance (by decide +kernel) (da_cons (d_var 1) (da_cons (d_ty (n := "str") rfl T.n_str (by decide +kernel)) da_nil))) (d_and (d_ne hr.units (d_var 1) d_str) (d_one (d_or (d_inD hr.units (d_var 1) (d_fld (c := "Stand") T.cl_Stand T.na_Stand_weighed (d_var 0))) (d_one (d_inD hr.units (d_var 1) (d_fld (c := "Stand") T.cl_Stand T.na_Stand_held (d_var 0))))))))))
  case hsp =>
    skip
    rintro ds cs Q Z ⟨s, x, rfl, h⟩ _
    show (_ : WS) (finD Q Z) [some _, some _] _
    walk_at "GO"
    refine ⟨fun q1 => ?_, fun q1 => ?_⟩
    · walk_at "GO"
      rw [lk_wgS]
      refine ⟨fun q2 => ?_, fun q2 => ?_⟩
      · have e : s.known x = true := by unfold StandS.known; rw [q2]; simp at q1; simp [q1]
        rw [e] at h
        exact h
      · walk_at "GO"
        rw [lk_hdS]
        have e : s.known x = (lk s.held x).isSome := by unfold StandS.known; rw [q2]; simp at q1; simp [q1]
        rw [e] at h
        exact h
    · have e : s.known x = false := by unfold StandS.known; simp at q1; simp [q1]
      rw [e] at h
      exact h in
#guard_msgs (pass all) in open Nat
local macro_rules | `(tactic| walk_at "cl") => `(tactic| (first | with_reducible refine r_Stand_known ?_))
def sp_need_known : DSp := fun ds cs P Z => ∃ (s : StandS) (x : Str), ds = [s.d, .str x] ∧ (s.known x = true → P .non cs) ∧ (s.known x = false → Z (exnF "NoName" "name" (.str x)) cs)
theorem r_need_known {s : StandS} {x : Str} {cs : Cs} {P : DP} {Z : XZ} (e : s.known x = true) (h : P .non cs) : sp_need_known [s.d, .str x] cs P Z := ⟨s, x, rfl, fun _ => h, fun z => by rw [e] at z; cases z⟩
theorem sc_need_known : FnScope ["stand", "name"] ["stand", "name"] (defScope s_need_known) := ⟨rfl, rfl, rfl, by decide +kernel, rfl, by decide +kernel, by decide +kernel⟩
theorem ok_need_known {P : Program} {w : World} {K : PySem.W.Frag} {mg : Str → Option Value} {base : Heap} (T : Txt K mg base) : FnOk P w K mg base (L2.CX P w) 4 (He.ga K "need_known") T.fd_need_known ["stand", "name"] (spL K 2 sp_need_known) := by
  apply ok_def (k := 3) T.F_need_known sc_need_known
  case hb =>
    intro cdv A outer s H E hr
    exact (dss_one (ds_if (dt_not (dt_val (d_meth T.cl_Stand T.m_Stand_known (ok_Stand_known T) (hr.mono (by decide)) (b_Stand_known T) .nil (fun _ => .nil) takesD (d_var 0) (da_cons (d_var 1) da_nil)))) (dss_one (ds_raise rfl takesD T.x_NoName.x T.x_NoName.ini T.x_NoName.ty (ok_i_NoName T) (hr.mono (by decide)) (b_i_NoName T) .nil (fun _ => .nil) rfl (by decide) (fld1 (fl := "name") (by decide)) rfl T.g_NoName (da_cons (d_var 1) da_nil))) dss_nil))
  case hsp =>
    skip
    rintro ds cs Q Z ⟨s, x, rfl, h1, h2⟩ _
    show (_ : WS) (finD Q Z) [some _, some _] _
    walk_at "GO"
    cases hk : s.known x with
    | true =>
      walk_at "GO"
      exact h1 hk
    | false =>
      walk_at "GO"
      exact h2 hk in
#guard_msgs (pass all) in open Nat
local macro_rules | `(tactic| walk_at "cl") => `(tactic| (first | ((with_reducible apply r_need_known); (assumption))))
def sp_House_need_any : DSp := fun ds cs P Z => ∃ (h : Addr) (s : StandS) (x : Str), ds = [.opq (.ref h), .str x] ∧ HAt h s cs ∧ (x = "" ∨ s.known x = true → P .non cs) ∧ (x ≠ "" → s.known x = false → Z (exnF "NoName" "name" (.str x)) cs)
theorem r_House_need_any {h : Addr} {s : StandS} {x : Str} {cs : Cs} {P : DP} {Z : XZ} (e : HAt h s cs) (hx : x = "" ∨ s.known x = true) (z : P .non cs) : sp_House_need_any [.opq (.ref h), .str x] cs P Z := ⟨h, s, x, rfl, e, fun _ => z, fun q1 q2 => by
  rcases hx with q | q
  · exact absurd q q1
  · rw [q] at q2; cases q2⟩
theorem sc_House_need_any : FnScope ["self", "name"] ["self", "name"] (defScope s_House_need_any) := ⟨rfl, rfl, rfl, by decide +kernel, rfl, by decide +kernel, by decide +kernel⟩
theorem ok_House_need_any {P : Program} {w : World} {K : PySem.W.Frag} {mg : Str → Option Value} {base : Heap} (T : Txt K mg base) : FnOk P w K mg base (L2.CX P w) 5 (He.ma K (He.ga K "House") "need_any") T.fd_House_need_any ["self", "name"] (spL K 2 sp_House_need_any) := by
  apply ok_def (k := 4) T.F_House_need_any sc_House_need_any
  case hb =>
    intro cdv A outer s H E hr
    exact (dss_one (ds_if (dt_ne hr.units (d_var 1) d_str) (dss_one (ds_expr (d_callN (ok_need_known T) (hr.mono (by decide)) rfl T.g_need_known T.F_need_known.kp (b_need_known T) takesD (da_cons (d_fld (c := "House") T.cl_House T.na_House_now (d_var 0)) (da_cons (d_var 1) da_nil))))) dss_nil))
  case hsp =>
    skip
    rintro ds cs Q Z ⟨hh, s, x, rfl, ⟨dx, p, l, sh, e⟩, h1, h2⟩ _
    show (_ : WS) (finD Q Z) [some _, some _] _
    walk_at "GO"
    refine ⟨fun q => ?_, fun q => ?_⟩
    · walk_at "GO"
      exact ⟨s, x, rfl, fun k => h1 (.inr k), fun k => h2 (by simpa using q) k⟩
    · walk_at "GO"
      exact h1 (.inl (by simpa using q)) in
#guard_msgs (pass all) in open Nat
local macro_rules | `(tactic| walk_at "cl") => `(tactic| (first | ((with_reducible apply r_House_need_any); (walk_at "ha"); (assumption))))
def sp_House_weight : DSp := fun ds cs P _ => ∃ (h : Addr) (w hh : Int) (r : Rat) (dn : Bool), ds = [.opq (.ref h), .str ""] ∧ HAt h (newS w hh r dn) cs ∧ P (.int 0) cs
theorem r_House_weight {h : Addr} {w hh : Int} {r : Rat} {dn : Bool} {cs : Cs} {P : DP} {Z : XZ} (e : HAt h (newS w hh r dn) cs) (z : P (.int 0) cs) : sp_House_weight [.opq (.ref h), .str ""] cs P Z := ⟨h, w, hh, r, dn, rfl, e, z⟩
theorem sc_House_weight : FnScope ["self", "name"] ["self", "name"] (defScope s_House_weight) := ⟨rfl, rfl, rfl, by decide +kernel, rfl, by decide +kernel, by decide +kernel⟩
theorem ok_House_weight {P : Program} {w : World} {K : PySem.W.Frag} {mg : Str → Option Value} {base : Heap} (T : Txt K mg base) : FnOk P w K mg base (L2.CX P w) 6 (He.ma K (He.ga K "House") "weight") T.fd_House_weight ["self", "name"] (spL K 2 sp_House_weight) := by
  apply ok_def (k := 5) T.F_House_weight sc_House_weight
  case hb =>
    intro cdv A outer s H E hr
    exact (dss_cons (ds_expr (d_meth T.cl_House T.m_House_need_any (ok_House_need_any T) (hr.mono (by decide)) (b_House_need_any T) .nil (fun _ => .nil) takesD (d_var 0) (da_cons (d_var 1) da_nil)))
      (dss_one (ds_ret (d_meth T.cl_Stand T.m_Stand_weight_of (ok_Stand_weight_of T) (hr.mono (by decide)) (b_Stand_weight_of T) .nil (fun _ => .nil) takesD (d_fld (c := "House") T.cl_House T.na_House_now (d_var 0)) (da_cons (d_var 1) da_nil)))))
  case hsp =>
    skip
    rintro ds cs Q Z ⟨hh, w, g, r, dn, rfl, hat, h⟩ _
    show (_ : WS) (finD Q Z) [some _, some _] _
    walk_at "GO"
    refine r_House_need_any hat (.inl rfl) ?_
    obtain ⟨dx, p, l, sh, e⟩ := hat
    walk_at "GO"
    exact h in
#guard_msgs (pass all) in open Nat
def sp_Stand_is_nest : DSp := fun ds cs P _ => ∃ (s : StandS) (x : Str), ds = [s.d, .str x] ∧ P (.bl (s.isNest x)) cs
theorem r_Stand_is_nest {s : StandS} {x : Str} {cs : Cs} {P : DP} {Z : XZ} (h : P (.bl (s.isNest x)) cs) : sp_Stand_is_nest [s.d, .str x] cs P Z := ⟨s, x, rfl, h⟩
theorem sc_Stand_is_nest : FnScope ["self", "name"] ["self", "name"] (defScope s_Stand_is_nest) := ⟨rfl, rfl, rfl, by decide +kernel, rfl, by decide +kernel, by decide +kernel⟩
theorem ok_Stand_is_nest {P : Program} {w : World} {K : PySem.W.Frag} {mg : Str → Option Value} {base : Heap} (T : Txt K mg base) : FnOk P w K mg base (L2.CX P w) 1 (He.ma K (He.ga K "Stand") "is_nest") T.fd_Stand_is_nest ["self", "name"] (spL K 2 sp_Stand_is_nest) := by
  apply ok_def (k := 0) T.F_Stand_is_nest sc_Stand_is_nest
  case hb =>
    intro cdv A outer s H E hr
    exact (dss_one (ds_ret (d_and (d_callB call_isi adq_isi rfl T.n_isinstance (by decide +kernel) (da_cons (d_var 1) (da_cons (d_ty (n := "str") rfl T.n_str (by decide +kernel)) da_nil))) (d_one (d_inD hr.units (d_var 1) (d_fld (c := "Stand") T.cl_Stand T.na_Stand_held (d_var 0)))))))
  case hsp =>
    skip
    rintro ds cs Q Z ⟨s, x, rfl, h⟩ _
    show (_ : WS) (finD Q Z) [some _, some _] _
    walk_at "GO"
    rw [lk_hdS]
    exact h in
#guard_msgs (pass all) in open Nat
local macro_rules | `(tactic| walk_at "cl") => `(tactic| (first | with_reducible refine r_Stand_is_nest ?_))
def sp_need_nest : DSp := fun ds cs P Z => ∃ (s : StandS) (x : Str), ds = [s.d, .str x] ∧ (s.isNest x = true → P .non cs) ∧ (s.isNest x = false → Z (exnF "NoNest" "name" (.str x)) cs)
theorem r_need_nest {s : StandS} {x : Str} {cs : Cs} {P : DP} {Z : XZ} (e : s.isNest x = true) (h : P .non cs) : sp_need_nest [s.d, .str x] cs P Z := ⟨s, x, rfl, fun _ => h, fun z => by rw [e] at z; cases z⟩
theorem sc_need_nest : FnScope ["stand", "nest"] ["stand", "nest"] (defScope s_need_nest) := ⟨rfl, rfl, rfl, by decide +kernel, rfl, by decide +kernel, by decide +kernel⟩
theorem ok_need_nest {P : Program} {w : World} {K : PySem.W.Frag} {mg : Str → Option Value} {base : Heap} (T : Txt K mg base) : FnOk P w K mg base (L2.CX P w) 4 (He.ga K "need_nest") T.fd_need_nest ["stand", "nest"] (spL K 2 sp_need_nest) := by
  apply ok_def (k := 3) T.F_need_nest sc_need_nest
  case hb =>
    intro cdv A outer s H E hr
    exact (dss_one (ds_if (dt_not (dt_val (d_meth T.cl_Stand T.m_Stand_is_nest (ok_Stand_is_nest T) (hr.mono (by decide)) (b_Stand_is_nest T) .nil (fun _ => .nil) takesD (d_var 0) (da_cons (d_var 1) da_nil)))) (dss_one (ds_raise rfl takesD T.x_NoNest.x T.x_NoNest.ini T.x_NoNest.ty (ok_i_NoNest T) (hr.mono (by decide)) (b_i_NoNest T) .nil (fun _ => .nil) rfl (by decide) (fld1 (fl := "name") (by decide)) rfl T.g_NoNest (da_cons (d_var 1) da_nil))) dss_nil))
  case hsp =>
    skip
    rintro ds cs Q Z ⟨s, x, rfl, h1, h2⟩ _
    show (_ : WS) (finD Q Z) [some _, some _] _
    walk_at "GO"
    cases hk : s.isNest x with
    | true =>
      walk_at "GO"
      exact h1 hk
    | false =>
      walk_at "GO"
      exact h2 hk in
#guard_msgs (pass all) in open Nat
local macro_rules | `(tactic| walk_at "cl") => `(tactic| (first | ((with_reducible apply r_need_nest); (assumption))))
def sp_House_side : DSp := fun ds cs P Z => ∃ (h : Addr) (s : StandS) (x : Str), ds = [.opq (.ref h), .str x] ∧ HAt h s cs ∧ (∀ n, lk s.held x = some n → P (sideD n.dn) cs) ∧ (lk s.held x = none → Z (exnF "NoNest" "name" (.str x)) cs)
theorem r_House_side {h : Addr} {s : StandS} {x : Str} {n : NestS} {cs : Cs} {P : DP} {Z : XZ} (e : HAt h s cs) (hn : lk s.held x = some n) (z : P (sideD n.dn) cs) : sp_House_side [.opq (.ref h), .str x] cs P Z := ⟨h, s, x, rfl, e, fun m q => by rw [hn] at q; cases q; exact z, fun q => by rw [hn] at q; cases q⟩
theorem sc_House_side : FnScope ["self", "nest"] ["self", "nest"] (defScope s_House_side) := ⟨rfl, rfl, rfl, by decide +kernel, rfl, by decide +kernel, by decide +kernel⟩
theorem ok_House_side {P : Program} {w : World} {K : PySem.W.Frag} {mg : Str → Option Value} {base : Heap} (T : Txt K mg base) : FnOk P w K mg base (L2.CX P w) 5 (He.ma K (He.ga K "House") "side") T.fd_House_side ["self", "nest"] (spL K 2 sp_House_side) := by
  apply ok_def (k := 4) T.F_House_side sc_House_side
  case hb =>
    intro cdv A outer s H E hr
    exact (dss_cons (ds_expr (d_callN (ok_need_nest T) (hr.mono (by decide)) rfl T.g_need_nest T.F_need_nest.kp (b_need_nest T) takesD (da_cons (d_fld (c := "House") T.cl_House T.na_House_now (d_var 0)) (da_cons (d_var 1) da_nil))))
      (dss_one (ds_ret (d_fld (c := "Nest") T.cl_Nest T.na_Nest_facing (d_getD hr.units (d_fld (c := "Stand") T.cl_Stand T.na_Stand_held (d_fld (c := "House") T.cl_House T.na_House_now (d_var 0))) (d_var 1))))))
  case hsp =>
    skip
    rintro ds cs Q Z ⟨hh, s, x, rfl, ⟨dx, p, l, sh, e⟩, h1, h2⟩ _
    show (_ : WS) (finD Q Z) [some _, some _] _
    walk_at "GO"
    refine ⟨s, x, rfl, fun q => ?_, fun q => ?_⟩
    · obtain ⟨n, hn⟩ := Option.isSome_iff_exists.mp q
      walk_at "GO"
      refine r_getKS (by rw [lk_hdD, hn]; rfl) ?_
      walk_at "GO"
      exact h1 n hn
    · walk_at "GO"
      exact h2 (by cases e2 : lk s.held x with | none => rfl | some n => rw [StandS.isNest, e2] at q; cases q) in
#guard_msgs (pass all) in open Nat
local macro_rules | `(tactic| walk_at "cl") => `(tactic| (first | ((with_reducible apply r_House_side); (walk_at "ha"); (assumption))))
def sp_House_children : DSp := fun ds cs P Z => ∃ (h : Addr) (s : StandS) (x : Str), ds = [.opq (.ref h), .str x] ∧ HAt h s cs ∧ (∀ n, lk s.held x = some n → P (.lst (n.inner.map D.str)) cs) ∧ (lk s.held x = none → Z (exnF "NoNest" "name" (.str x)) cs)
theorem r_House_children {h : Addr} {s : StandS} {x : Str} {n : NestS} {cs : Cs} {P : DP} {Z : XZ} (e : HAt h s cs) (hn : lk s.held x = some n) (z : P (.lst (n.inner.map D.str)) cs) : sp_House_children [.opq (.ref h), .str x] cs P Z := ⟨h, s, x, rfl, e, fun m q => by rw [hn] at q; cases q; exact z, fun q => by rw [hn] at q; cases q⟩
theorem sc_House_children : FnScope ["self", "nest"] ["self", "nest"] (defScope s_House_children) := ⟨rfl, rfl, rfl, by decide +kernel, rfl, by decide +kernel, by decide +kernel⟩
theorem ok_House_children {P : Program} {w : World} {K : PySem.W.Frag} {mg : Str → Option Value} {base : Heap} (T : Txt K mg base) : FnOk P w K mg base (L2.CX P w) 5 (He.ma K (He.ga K "House") "children") T.fd_House_children ["self", "nest"] (spL K 2 sp_House_children) := by
  apply ok_def (k := 4) T.F_House_children sc_House_children
  case hb =>
    intro cdv A outer s H E hr
    exact (dss_cons (ds_expr (d_callN (ok_need_nest T) (hr.mono (by decide)) rfl T.g_need_nest T.F_need_nest.kp (b_need_nest T) takesD (da_cons (d_fld (c := "House") T.cl_House T.na_House_now (d_var 0)) (da_cons (d_var 1) da_nil))))
      (dss_one (ds_ret (d_callTy call_list_of adq_list rfl T.n_list (by decide +kernel) (da_cons (d_fld (c := "Nest") T.cl_Nest T.na_Nest_inner (d_getD hr.units (d_fld (c := "Stand") T.cl_Stand T.na_Stand_held (d_fld (c := "House") T.cl_House T.na_House_now (d_var 0))) (d_var 1))) da_nil)))))
  case hsp =>
    skip
    rintro ds cs Q Z ⟨hh, s, x, rfl, ⟨dx, p, l, sh, e⟩, h1, h2⟩ _
    show (_ : WS) (finD Q Z) [some _, some _] _
    walk_at "GO"
    refine ⟨s, x, rfl, fun q => ?_, fun q => ?_⟩
    · obtain ⟨n, hn⟩ := Option.isSome_iff_exists.mp q
      walk_at "GO"
      refine r_getKS (by rw [lk_hdD, hn]; rfl) ?_
      walk_at "GO"
      exact h1 n hn
    · walk_at "GO"
      exact h2 (by cases e2 : lk s.held x with | none => rfl | some n => rw [StandS.isNest, e2] at q; cases q) in
#guard_msgs (pass all) in open Nat
local macro_rules | `(tactic| walk_at "cl") => `(tactic| (first | ((with_reducible apply r_House_children); (walk_at "ha"); (assumption))))
def sp_House_rows : DSp := fun ds cs P Z => ∃ (h : Addr) (s : StandS) (x : Str), ds = [.opq (.ref h), .str x] ∧ HAt h s cs ∧ StOk s ∧ (∀ n, lk s.held x = some n → P (.lst (n.lines.map fun l => .lst (l.map D.str))) cs) ∧ (lk s.held x = none → Z (exnF "NoNest" "name" (.str x)) cs)
theorem r_House_rows {h : Addr} {s : StandS} {x : Str} {n : NestS} {cs : Cs} {P : DP} {Z : XZ} (e : HAt h s cs) (ok : StOk s) (hn : lk s.held x = some n) (z : P (.lst (n.lines.map fun l => .lst (l.map D.str))) cs) : sp_House_rows [.opq (.ref h), .str x] cs P Z := ⟨h, s, x, rfl, e, ok, fun m q => by rw [hn] at q; cases q; exact z, fun q => by rw [hn] at q; cases q⟩
theorem sc_House_rows : FnScope ["self", "nest", "line"] ["self", "nest"] (defScope s_House_rows) := ⟨rfl, rfl, rfl, by decide +kernel, rfl, by decide +kernel, by decide +kernel⟩
theorem ok_House_rows {P : Program} {w : World} {K : PySem.W.Frag} {mg : Str → Option Value} {base : Heap} (T : Txt K mg base) : FnOk P w K mg base (L2.CX P w) 5 (He.ma K (He.ga K "House") "rows") T.fd_House_rows ["self", "nest"] (spL K 2 sp_House_rows) := by
  apply ok_def (k := 4) T.F_House_rows sc_House_rows
  case hb =>
    intro cdv A outer s H E hr
    exact (dss_cons (ds_expr (d_callN (ok_need_nest T) (hr.mono (by decide)) rfl T.g_need_nest T.F_need_nest.kp (b_need_nest T) takesD (da_cons (d_fld (c := "House") T.cl_House T.na_House_now (d_var 0)) (da_cons (d_var 1) da_nil))))
      (dss_one (ds_ret (d_lc rfl sc_House_rows.nd (di_tup (d_fld (c := "Nest") T.cl_Nest T.na_Nest_lines (d_getD hr.units (d_fld (c := "Stand") T.cl_Stand T.na_Stand_held (d_fld (c := "House") T.cl_House T.na_House_now (d_var 0))) (d_var 1)))) (blkOk_by (own := [("line", 2)]) (N := ["self", "nest", "line"]) (sc := defScope s_House_rows) (by decide +kernel)) (gok_name (by decide)) (fun _ _ _ _ _ => (pg_name (i := 2) sc_House_rows.nd rfl (Or.inl rfl))) (fun _ _ _ _ _ => dts_nil) (fun _ _ _ _ _ => (d_callTy call_list_of adq_list rfl T.n_list (by decide +kernel) (da_cons (d_var 2) da_nil)))))))
  case hsp =>
    skip
    rintro ds cs Q Z ⟨hh, s, x, rfl, ⟨dx, p, l, sh, e⟩, ok, h1, h2⟩ _
    show (_ : WS) (finD Q Z) [some _, some _, none] _
    walk_at "GO"
    refine ⟨s, x, rfl, fun q => ?_, fun q => ?_⟩
    · obtain ⟨n, hn⟩ := Option.isSome_iff_exists.mp q
      have hin := ok.inn _ (lkM hn)
      walk_at "GO"
      refine r_getKS (by rw [lk_hdD, hn]; rfl) ?_
      walk_at "GO"
      refine ⟨by unfold linesD; rw [List.length_map]; exact Nat.le_trans hin.2.1 (by decide), ?_⟩
      refine r_cmE (l := n.lines) (g := fun l => .tup (l.map D.str)) rfl (fun l => .lst (l.map D.str)) (fun l N N' hm n1 => ?_) ?_
      · walk_at "GO"
        exact n1
      exact h1 n hn
    · walk_at "GO"
      exact h2 (by cases e2 : lk s.held x with | none => rfl | some n => rw [StandS.isNest, e2] at q; cases q) in
#guard_msgs (pass all) in open Nat
local macro_rules | `(tactic| walk_at "cl") => `(tactic| (first | ((with_reducible apply r_House_rows); (walk_at "ha"); (walk_at "ok"); (assumption))))
def sp_House_box : DSp := fun ds cs _ Z => ∃ (h : Addr) (w hh : Int) (r : Rat) (dn : Bool) (ps ls : List StandS), ds = [.opq (.ref h), .str ""] ∧ HouseIn h (newS w hh r dn) ps ls cs ∧ ∀ cs', HouseIn h (newS w hh r dn) ps ls cs' → HFr h cs cs' → Z (exnF "Bare" "name" (.str "")) cs'
theorem r_House_box {h : Addr} {w hh : Int} {r : Rat} {dn : Bool} {ps ls : List StandS} {cs : Cs} {P : DP} {Z : XZ} (e : HouseIn h (newS w hh r dn) ps ls cs) (z : ∀ cs', HouseIn h (newS w hh r dn) ps ls cs' → HFr h cs cs' → Z (exnF "Bare" "name" (.str "")) cs') : sp_House_box [.opq (.ref h), .str ""] cs P Z := ⟨h, w, hh, r, dn, ps, ls, rfl, e, z⟩
theorem sc_House_box : FnScope ["self", "name"] ["self", "name"] (defScope s_House_box) := ⟨rfl, rfl, rfl, by decide +kernel, rfl, by decide +kernel, by decide +kernel⟩
theorem ok_House_box {P : Program} {w : World} {K : PySem.W.Frag} {mg : Str → Option Value} {base : Heap} (T : Txt K mg base) : FnOk P w K mg base (L2.CX P w) 7 (He.ma K (He.ga K "House") "box") T.fd_House_box ["self", "name"] (spL K 2 sp_House_box) := by
  apply ok_def (k := 6) T.F_House_box sc_House_box
  case hb =>
    intro cdv A outer s H E hr
    exact (dss_cons (ds_expr (d_meth T.cl_House T.m_House_need_any (ok_House_need_any T) (hr.mono (by decide)) (b_House_need_any T) .nil (fun _ => .nil) takesD (d_var 0) (da_cons (d_var 1) da_nil)))
      (dss_cons (ds_if (dt_notinD hr.units (d_var 1) (d_meth0 T.cl_House T.m_House_all_boxes (ok_House_all_boxes T) (hr.mono (by decide)) (b_House_all_boxes T) .nil (fun _ => .nil) takesD (d_var 0))) (dss_one (ds_raise rfl takesD T.x_Bare.x T.x_Bare.ini T.x_Bare.ty (ok_i_Bare T) (hr.mono (by decide)) (b_i_Bare T) .nil (fun _ => .nil) rfl (by decide) (fld1 (fl := "name") (by decide)) rfl T.g_Bare (da_cons (d_var 1) da_nil))) dss_nil)
      (dss_one (ds_ret (d_getD hr.units (d_meth0 T.cl_House T.m_House_all_boxes (ok_House_all_boxes T) (hr.mono (by decide)) (b_House_all_boxes T) .nil (fun _ => .nil) takesD (d_var 0)) (d_var 1))))))
  case hsp =>
    skip
    rintro ds cs Q Z ⟨hh, w, g, r, dn, ps, ls, rfl, hin, h⟩ _
    show (_ : WS) (finD Q Z) [some _, some _] _
    walk_at "GO"
    refine r_House_need_any hin.at_ (.inl rfl) ?_
    walk_at "GO"
    refine r_House_all_boxes hin fun cs1 hin1 fr1 => ?_
    walk_at "GO"
    rw [show (lk ([] : List (Key × D)) (Sum.inr ("" : Str))).isSome = false from rfl]
    walk_at "GO"
    exact h _ hin1 fr1 in
#guard_msgs (pass all) in open Nat
def sp_law_right : DSp := fun ds cs P _ => ∃ (a : Addr) (w h : Int) (r : Rat) (dn : Bool) (ps ls : List StandS), ds = [.opq (.ref a), newL w h r dn] ∧ HouseIn a (newS w h r dn) ps ls cs ∧ StOk (newS w h r dn) ∧ P (.bl true) cs
theorem r_law_right {a : Addr} {w h : Int} {r : Rat} {dn : Bool} {ps ls : List StandS} {cs : Cs} {P : DP} {Z : XZ} (e : HouseIn a (newS w h r dn) ps ls cs) (ok : StOk (newS w h r dn)) (z : P (.bl true) cs) : sp_law_right [.opq (.ref a), newL w h r dn] cs P Z := ⟨a, w, h, r, dn, ps, ls, rfl, e, ok, z⟩
theorem sc_law_right : FnScope ["_law_house", "_law_state", "_law_names", "_law_nest", "_law_lean_here", "_law_children", "_law_rows", "_law_boxes_now", "_law_name"] ["_law_house", "_law_state"] (defScope s_law_right) := ⟨rfl, rfl, rfl, by decide +kernel, rfl, by decide +kernel, by decide +kernel⟩
theorem ok_law_right {P : Program} {w : World} {K : PySem.W.Frag} {mg : Str → Option Value} {base : Heap} (T : Txt K mg base) : FnOk P w K mg base (L2.CX P w) 9 (He.ga K "_law_right") T.fd_law_right ["_law_house", "_law_state"] (spL K 2 sp_law_right) := by
  apply ok_def (k := 8) T.F_law_right sc_law_right
  case hb =>
    intro cdv A outer s H E hr
    exact (dss_cons (ds_set (i := 2) sc_law_right.nd rfl (Or.inl rfl) (d_callN (ok_law_all_names T) (hr.mono (by decide)) rfl T.g_law_all_names T.F_law_all_names.kp (b_law_all_names T) takesD (da_cons (d_var 1) da_nil)))
      (dss_cons (ds_if (dt_not (dt_val (d_callN (ok_law_same T 7) (hr.mono (by decide)) rfl T.g_law_same T.F_law_same.kp (b_law_same T) takesD (da_cons (d_lst (da_cons (d_meth0 T.cl_House T.m_House_names (ok_House_names T) (hr.mono (by decide)) (b_House_names T) .nil (fun _ => .nil) takesD (d_var 0)) (da_cons (d_meth0 T.cl_House T.m_House_size (ok_House_size T) (hr.mono (by decide)) (b_House_size T) .nil (fun _ => .nil) takesD (d_var 0)) (da_cons (d_meth0 T.cl_House T.m_House_bound (ok_House_bound T) (hr.mono (by decide)) (b_House_bound T) .nil (fun _ => .nil) takesD (d_var 0)) da_nil)))) (da_cons (d_lst (da_cons (d_var 2) (da_cons (d_getD hr.units (d_var 1) d_str) (da_cons (d_getD hr.units (d_var 1) d_str) da_nil)))) da_nil))))) (dss_one (ds_ret d_bl)) dss_nil)
      (dss_cons (ds_for passD rfl (di_keys (d_getD hr.units (d_var 1) d_str)) (dg_name (i := 3) sc_law_right.nd rfl (Or.inl rfl)) (dss_cons (ds_asg (d_getD hr.units (d_getD hr.units (d_var 1) d_str) (d_var 3)) (dg_tup (n := 3) rfl (dgs_cons (dg_name (i := 4) sc_law_right.nd rfl (Or.inl rfl)) (dgs_cons (dg_name (i := 5) sc_law_right.nd rfl (Or.inl rfl)) (dgs_cons (dg_name (i := 6) sc_law_right.nd rfl (Or.inl rfl)) dgs_nil)))))
      (dss_one (ds_if (dt_not (dt_val (d_callN (ok_law_same T 7) (hr.mono (by decide)) rfl T.g_law_same T.F_law_same.kp (b_law_same T) takesD (da_cons (d_lst (da_cons (d_meth T.cl_House T.m_House_side (ok_House_side T) (hr.mono (by decide)) (b_House_side T) .nil (fun _ => .nil) takesD (d_var 0) (da_cons (d_var 3) da_nil)) (da_cons (d_meth T.cl_House T.m_House_children (ok_House_children T) (hr.mono (by decide)) (b_House_children T) .nil (fun _ => .nil) takesD (d_var 0) (da_cons (d_var 3) da_nil)) (da_cons (d_meth T.cl_House T.m_House_rows (ok_House_rows T) (hr.mono (by decide)) (b_House_rows T) .nil (fun _ => .nil) takesD (d_var 0) (da_cons (d_var 3) da_nil)) da_nil)))) (da_cons (d_lst (da_cons (d_var 4) (da_cons (d_var 5) (da_cons (d_var 6) da_nil)))) da_nil))))) (dss_one (ds_ret d_bl)) dss_nil))))
      (dss_cons (ds_set (i := 7) sc_law_right.nd rfl (Or.inl rfl) (d_callN (ok_law_boxes T) (hr.mono (by decide)) rfl T.g_law_boxes T.F_law_boxes.kp (b_law_boxes T) takesD (da_cons (d_var 1) da_nil)))
      (dss_cons (ds_for passD rfl (di_list (d_var 2)) (dg_name (i := 8) sc_law_right.nd rfl (Or.inl rfl)) (dss_cons (ds_if (dt_not (dt_val (d_callN (ok_law_same T 7) (hr.mono (by decide)) rfl T.g_law_same T.F_law_same.kp (b_law_same T) takesD (da_cons (d_meth T.cl_House T.m_House_weight (ok_House_weight T) (hr.mono (by decide)) (b_House_weight T) .nil (fun _ => .nil) takesD (d_var 0) (da_cons (d_var 8) da_nil)) (da_cons (d_callN (ok_law_weigh T) (hr.mono (by decide)) rfl T.g_law_weigh T.F_law_weigh.kp (b_law_weigh T) takesD (da_cons (d_var 1) (da_cons (d_var 8) da_nil))) da_nil))))) (dss_one (ds_ret d_bl)) dss_nil)
      (dss_one (ds_if (dt_w (dw_and (dt_inD hr.units (d_var 8) (d_var 7)) (dw_and1 (dt_not (dt_val (d_callN (ok_law_same T 7) (hr.mono (by decide)) rfl T.g_law_same T.F_law_same.kp (b_law_same T) takesD (da_cons (d_meth T.cl_House T.m_House_box (ok_House_box T) (hr.mono (by decide)) (b_House_box T) .nil (fun _ => .nil) takesD (d_var 0) (da_cons (d_var 8) da_nil)) (da_cons (d_getD hr.units (d_var 7) (d_var 8)) da_nil)))))))) (dss_one (ds_ret d_bl)) dss_nil))))
      (dss_one (ds_ret (d_callN (ok_law_same T 7) (hr.mono (by decide)) rfl T.g_law_same T.F_law_same.kp (b_law_same T) takesD (da_cons (d_lenO T.m_House___len__ (ok_House___len__ T) (hr.mono (by decide)) (b_House___len__ T) rfl T.n_len (d_var 0)) (da_cons (d_callB cr_lenDd adq_lenDd rfl T.n_len (by decide +kernel) (da_cons (d_getD hr.units (d_var 1) d_str) da_nil)) da_nil))))))))))
  case hsp =>
    skip
    rintro ds cs Q Z ⟨a, w, hh, r, dn, ps, ls, rfl, hin, ok, h⟩ _
    show (_ : WS) (finD Q Z) [some _, some _, none, none, none, none, none, none, none] _
    walk_at "GO"
    have e1 : (newS w hh r dn).names = [] := newS_names
    rw [e1]
    refine r_law_same rfl ?_
    walk_at "GO"
    show loopW _ _ _ [D.str ""] _ _
    rw [loopW]
    have hh0 : lk (newS w hh r dn).held "" = some ⟨dn, [], []⟩ := rfl
    walk_at "GO"
    refine r_law_same rfl ?_
    walk_at "GO"
    rw [loopW]
    walk_at "GO"
    show loopW _ _ _ [] _ _
    rw [loopW]
    walk_at "GO"
    refine ⟨0, rfl, ⟨by decide, by decide⟩, ?_⟩
    walk_at "GO"
    exact r_law_same rfl h in
#guard_msgs (pass all) in open Nat
local macro_rules | `(tactic| walk_at "cl") => `(tactic| (first | ((with_reducible apply r_law_right); (assumption); (assumption))))
def sp_law_gcd : DSp := fun ds cs P _ => ∃ a b : Nat, ds = [.int (a : Int), .int (b : Int)] ∧ P (.int (Nat.gcd a b : Int)) cs
theorem sc_law_gcd : FnScope ["_law_one", "_law_other"] ["_law_one", "_law_other"] (defScope s_law_gcd) := ⟨rfl, rfl, rfl, by decide +kernel, rfl, by decide +kernel, by decide +kernel⟩
theorem ok_law_gcd {P : Program} {w : World} {K : PySem.W.Frag} {mg : Str → Option Value} {base : Heap} (T : Txt K mg base) : FnOk P w K mg base (L2.CX P w) 1 (He.ga K "_law_gcd") T.fd_law_gcd ["_law_one", "_law_other"] (spL K 2 sp_law_gcd) := by
  apply ok_def (k := 0) T.F_law_gcd sc_law_gcd
  case hb =>
    intro cdv A outer s H E hr
    exact (dss_cons (ds_while passD (dt_gt (d_var 1) d_int) (dss_one (ds_par (i := 0) (j := 1) rfl sc_law_gcd.nd rfl rfl (by decide) rfl rfl (da_cons (d_var 1) (da_cons (d_mod (d_var 0) (d_var 1)) da_nil)))))
      (dss_one (ds_ret (d_var 0))))
  case hsp =>
    skip
    rintro ds cs Q Z ⟨a, b, rfl, h⟩ _
    show (_ : WS) (finD Q Z) [some _, some _] _
    walk_at "go"
    refine r_while (fun m ρ cs' => ∃ a' b' : Nat, ρ = [some (.int (a' : Int)), some (.int (b' : Int))] ∧ m = b' ∧ cs' = cs ∧ Nat.gcd a' b' = Nat.gcd a b) ⟨b, a, b, rfl, rfl, rfl, rfl⟩ ?_
    rintro m ρ cs' N ⟨a', b', rfl, hm, rfl, hg⟩ hN
    walk_at "go"
    refine ⟨fun hk => ?_, fun hk => ?_⟩
    · have hb : (b' : Int) ≠ 0 := by have := decT hk; omega
      have hb0 : (0 : Int) < b' := by omega
      walk_at "go"
      refine hN (a' % b') _ _ (by rw [hm]; exact Nat.mod_lt _ (by omega)) ⟨b', a' % b', rfl, rfl, rfl, ?_⟩
      rw [← hg, Nat.gcd_comm b', ← Nat.gcd_rec, Nat.gcd_comm]
    · have hb : (b' : Int) = 0 := by have := decF hk; omega
      have hb0 : b' = 0 := by omega
      rw [hb0]
      walk_at "go"
      rw [← hg, hb0, Nat.gcd_zero_right] at h
      exact h in
#guard_msgs (pass all) in open Nat
def sp_law_part : DSp := fun ds cs P _ => ∃ a b : Int, ds = [.int a, .int b] ∧ b ≠ 0 ∧ b.natAbs < 2 ^ 9000 ∧ P (dR (Rat.divInt a b)) cs
theorem r_law_part {a b : Int} {cs : Cs} {P : DP} {Z : XZ} (b0 : b ≠ 0) (hb : b.natAbs < 2 ^ 9000) (h : P (dR (Rat.divInt a b)) cs) : sp_law_part [.int a, .int b] cs P Z := ⟨a, b, rfl, b0, hb, h⟩
theorem sc_law_part : FnScope ["_law_above", "_law_below", "_law_by"] ["_law_above", "_law_below"] (defScope s_law_part) := ⟨rfl, rfl, rfl, by decide +kernel, rfl, by decide +kernel, by decide +kernel⟩
theorem ok_law_part {P : Program} {w : World} {K : PySem.W.Frag} {mg : Str → Option Value} {base : Heap} (T : Txt K mg base) : FnOk P w K mg base (L2.CX P w) 2 (He.ga K "_law_part") T.fd_law_part ["_law_above", "_law_below"] (spL K 2 sp_law_part) := by
  apply ok_def (k := 1) T.F_law_part sc_law_part
  case hb =>
    intro cdv A outer s H E hr
    exact (dss_cons (ds_if (dt_lt (d_var 1) d_int) (dss_one (ds_par (i := 0) (j := 1) rfl sc_law_part.nd rfl rfl (by decide) rfl rfl (da_cons (d_sub d_int (d_var 0)) (da_cons (d_sub d_int (d_var 1)) da_nil)))) dss_nil)
      (dss_cons (ds_set (i := 2) sc_law_part.nd rfl (Or.inl rfl) (d_callN (ok_law_gcd T) (hr.mono (by decide)) rfl T.g_law_gcd T.F_law_gcd.kp (b_law_gcd T) takesD (da_cons (d_callB call_abs adq_abs rfl T.n_abs (by decide +kernel) (da_cons (d_var 0) da_nil)) (da_cons (d_var 1) da_nil))))
      (dss_one (ds_ret (d_tup (da_cons (d_fdiv (d_var 0) (d_var 2)) (da_cons (d_fdiv (d_var 1) (d_var 2)) da_nil)))))))
  case hsp =>
    skip
    rintro ds cs Q Z ⟨a, b, rfl, hb, hs, h⟩ _
    show (_ : WS) (finD Q Z) [some _, some _, none] _
    refine r_key (N := fun ρ' cs' => ∃ a' b' : Int, ρ' = [some (.int a'), some (.int b'), none] ∧ cs' = cs ∧ 0 < b' ∧ b'.natAbs < 2 ^ 9000 ∧ Rat.divInt a' b' = Rat.divInt a b) ?_ (fun nx key => ?_)
    · rintro ρ' cs' ⟨a', b', rfl, rfl, hp, hz, he⟩
      walk_at "go"
      rw [abs_nat]
      have hn : b' = (b'.natAbs : Int) := by omega
      refine ⟨a'.natAbs, b'.natAbs, by rw [← hn], ?_⟩
      have g := gcd_ok (a := a'.natAbs) (b := b'.natAbs) (by omega) hz
      obtain ⟨e1, e2⟩ := part_pos a' b' hp
      walk_at "go"
      show Q (.tup [.int (a' / _), .int (b' / _)]) cs'
      rw [e1, e2, he]
      exact h
    · walk_at "go"
      refine ⟨fun hk2 => ?_, fun hk2 => ?_⟩
      · have hlt := decT hk2
        walk_at "go"
        exact key _ _ ⟨0 - a, 0 - b, rfl, rfl, by omega, by rw [Int.zero_sub, Int.natAbs_neg]; exact hs, by rw [Int.zero_sub, Int.zero_sub]; exact part_neg a b⟩
      · have hlt := decF hk2
        walk_at "go"
        exact key _ _ ⟨a, b, rfl, rfl, by omega, hs, rfl⟩ in
#guard_msgs (pass all) in open Nat
local macro_rules | `(tactic| walk_at "cl") => `(tactic| (first | ((with_reducible apply r_law_part); (walk_at "in"); (walk_at "p9"))))
def sp_law_bound : DSp := fun ds cs P _ => ∃ (p : Addr), ds = [.opq (.ref p)] ∧ BagIn p cs ∧ ∀ (r : Rat) cs', 1 ≤ r → r.num < 10 ^ 30 → BagStep p cs cs' → P (dR r) cs'
theorem r_law_bound {p : Addr} {cs : Cs} {P : DP} {Z : XZ} (hb : BagIn p cs) (h : ∀ (r : Rat) cs', 1 ≤ r → r.num < 10 ^ 30 → BagStep p cs cs' → P (dR r) cs') : sp_law_bound [.opq (.ref p)] cs P Z := ⟨p, rfl, hb, h⟩
theorem sc_law_bound : FnScope ["_law_bag_here", "_law_kind", "_law_below"] ["_law_bag_here"] (defScope s_law_bound) := ⟨rfl, rfl, rfl, by decide +kernel, rfl, by decide +kernel, by decide +kernel⟩
theorem ok_law_bound {P : Program} {w : World} {K : PySem.W.Frag} {mg : Str → Option Value} {base : Heap} (T : Txt K mg base) : FnOk P w K mg base (L2.CX P w) 3 (He.ga K "_law_bound") T.fd_law_bound ["_law_bag_here"] (spL K 1 sp_law_bound) := by
  apply ok_def (k := 2) T.F_law_bound sc_law_bound
  case hb =>
    intro cdv A outer s H E hr
    exact (dss_cons (ds_set (i := 1) sc_law_bound.nd rfl (Or.inl rfl) (d_callN (ok_law_get T) (hr.mono (by decide)) rfl T.g_law_get T.F_law_get.kp (b_law_get T) takesD (da_cons (d_var 0) (da_cons d_int da_nil))))
      (dss_cons (ds_if (dt_eq hr.units (d_var 1) d_int) (dss_one (ds_ret (d_tup (da_cons d_int (da_cons d_int da_nil))))) dss_nil)
      (dss_cons (ds_if (dt_eq hr.units (d_var 1) d_int) (dss_one (ds_ret (d_callN (ok_law_part T) (hr.mono (by decide)) rfl T.g_law_part T.F_law_part.kp (b_law_part T) takesD (da_cons (d_sub (d_sub (d_pow d_int d_int) d_int) (d_callN (ok_law_get T) (hr.mono (by decide)) rfl T.g_law_get T.F_law_get.kp (b_law_get T) takesD (da_cons (d_var 0) (da_cons d_int da_nil)))) (da_cons (d_add d_int (d_callN (ok_law_get T) (hr.mono (by decide)) rfl T.g_law_get T.F_law_get.kp (b_law_get T) takesD (da_cons (d_var 0) (da_cons d_int da_nil)))) da_nil))))) dss_nil)
      (dss_cons (ds_if (dt_eq hr.units (d_var 1) d_int) (dss_one (ds_ret (d_callN (ok_law_part T) (hr.mono (by decide)) rfl T.g_law_part T.F_law_part.kp (b_law_part T) takesD (da_cons (d_add d_int (d_callN (ok_law_get T) (hr.mono (by decide)) rfl T.g_law_get T.F_law_get.kp (b_law_get T) takesD (da_cons (d_var 0) (da_cons d_int da_nil)))) (da_cons d_int da_nil))))) dss_nil)
      (dss_cons (ds_set (i := 2) sc_law_bound.nd rfl (Or.inl rfl) (d_add d_int (d_callN (ok_law_get T) (hr.mono (by decide)) rfl T.g_law_get T.F_law_get.kp (b_law_get T) takesD (da_cons (d_var 0) (da_cons d_int da_nil)))))
      (dss_one (ds_ret (d_callN (ok_law_part T) (hr.mono (by decide)) rfl T.g_law_part T.F_law_part.kp (b_law_part T) takesD (da_cons (d_add (d_var 2) (d_callN (ok_law_get T) (hr.mono (by decide)) rfl T.g_law_get T.F_law_get.kp (b_law_get T) takesD (da_cons (d_var 0) (da_cons d_int da_nil)))) (da_cons (d_var 2) da_nil))))))))))
  case hsp =>
    skip
    rintro ds cs Q Z ⟨p, rfl, hb, h⟩ _
    have fin : ∀ (a b : Int) cs', 0 < b → b ≤ a → a < 10 ^ 30 → BagStep p cs cs' → Q (dR (Rat.divInt a b)) cs' := fun a b cs' h0 h1 h2 st =>
      h _ _ (one_le_divInt h0 h1) (Int.lt_of_le_of_lt (num_divInt_le (by omega) h0) h2) st
    show (_ : WS) (finD Q Z) [some _, none, none] _
    walk_at "GO"
    intro k c1 k0 k1 st1
    walk_at "GO"
    refine ⟨fun _ => ?_, fun _ => ?_⟩
    · walk_at "GO"
      rw [show D.tup [.int 1, .int 1] = dR 1 from rfl]
      exact h 1 _ Rat.le_refl (by decide) st1
    walk_at "GO"
    refine ⟨fun _ => ?_, fun _ => ?_⟩
    · walk_at "GO"
      intro g c2 g0 g1 st2
      walk_at "GO"
      intro g' c3 g2 g3 st3
      walk_at "GO"
      rw [show (10 : Int) ^ (30 : Int).toNat = 1000000000000000000000000000000 by decide]
      walk_at "GO"
      exact fin _ _ _ (by omega) (by omega) (by omega) ((st1.trans st2).trans st3)
    walk_at "GO"
    refine ⟨fun _ => ?_, fun _ => ?_⟩
    · walk_at "GO"
      intro g c2 g0 g1 st2
      walk_at "GO"
      exact fin _ _ _ (by decide) (by omega) (by omega) (st1.trans st2)
    walk_at "GO"
    intro g c2 g0 g1 st2
    walk_at "GO"
    intro g' c3 g2 g3 st3
    walk_at "GO"
    exact fin _ _ _ (by omega) (by omega) (by omega) ((st1.trans st2).trans st3) in
#guard_msgs (pass all) in open Nat
local macro_rules | `(tactic| walk_at "cl") => `(tactic| (first | ((with_reducible apply r_law_bound); (walk_at "bg"))))
def sp_law_lean : DSp := fun ds cs P _ => ∃ p, ds = [.opq (.ref p)] ∧ BagIn p cs ∧ ∀ dn cs', BagStep p cs cs' → P (sideD dn) cs'
theorem r_law_lean {p : Addr} {cs : Cs} {P : DP} {Z : XZ} (hb : BagIn p cs) (h : ∀ dn cs', BagStep p cs cs' → P (sideD dn) cs') : sp_law_lean [.opq (.ref p)] cs P Z := ⟨p, rfl, hb, h⟩
theorem sc_law_lean : FnScope ["_law_bag_here"] ["_law_bag_here"] (defScope s_law_lean) := ⟨rfl, rfl, rfl, by decide +kernel, rfl, by decide +kernel, by decide +kernel⟩
theorem ok_law_lean {P : Program} {w : World} {K : PySem.W.Frag} {mg : Str → Option Value} {base : Heap} (T : Txt K mg base) : FnOk P w K mg base (L2.CX P w) 2 (He.ga K "_law_lean") T.fd_law_lean ["_law_bag_here"] (spL K 1 sp_law_lean) := by
  apply ok_def (k := 1) T.F_law_lean sc_law_lean
  case hb =>
    intro cdv A outer s H E hr
    exact (dss_one (ds_ret (d_sub_ix (d_lst (da_cons d_str (da_cons d_str da_nil))) (d_callN (ok_law_get T) (hr.mono (by decide)) rfl T.g_law_get T.F_law_get.kp (b_law_get T) takesD (da_cons (d_var 0) (da_cons d_int da_nil))))))
  case hsp =>
    skip
    rintro ds cs Q Z ⟨p, rfl, hb, h⟩ _
    show (_ : WS) (finD Q Z) [some _] _
    walk_at "go"
    refine ⟨p, 2, rfl, by decide, by decide, hb, fun g cs1 g0 g1 st => ?_⟩
    have hg : g = 0 ∨ g = 1 := by omega
    rcases hg with rfl | rfl
    · walk_at "go"
      exact h true _ st
    · walk_at "go"
      exact h false _ st in
#guard_msgs (pass all) in open Nat
local macro_rules | `(tactic| walk_at "cl") => `(tactic| (first | ((with_reducible apply r_law_lean); (walk_at "bg"))))
theorem sc_law_ask : FnScope ["_law_ask_here", "_law_told", "_law_word", "e"] ["_law_ask_here"] (defScope s_law_ask) := ⟨rfl, rfl, rfl, by decide +kernel, rfl, by decide +kernel, by decide +kernel⟩
theorem tk_law_ask {P : Program} {w : World} {K : PySem.W.Frag} {mg : Str → Option Value} {base : Heap} (T : Txt K mg base) : TkOk P w K mg base 1 (He.ga K "_law_ask") (TTask K [.ref (He.ga K "CutError"), .ref (He.ga K "Missing"), .ref (He.ga K "NothingLeft")]) := tk_ask T.F_law_ask sc_law_ask (b_law_ask T) rfl rfl rfl rfl rfl rfl rfl T.g_CutError T.g_Missing T.g_NothingLeft (by decide) (by decide) (by intro env he; cases env; cases he; rfl) in
#guard_msgs (pass all) in open Nat
theorem sc_law_why : FnScope ["_law_ask_here"] ["_law_ask_here"] (defScope s_law_why) := ⟨rfl, rfl, rfl, by decide +kernel, rfl, by decide +kernel, by decide +kernel⟩
theorem tk_law_why {P : Program} {w : World} {K : PySem.W.Frag} {mg : Str → Option Value} {base : Heap} (T : Txt K mg base) : TkOk P w K mg base 2 (He.ga K "_law_why") (TTwhy K [.ref (He.ga K "CutError"), .ref (He.ga K "Missing"), .ref (He.ga K "NothingLeft")]) := tk_why (tk_law_ask T) T.F_law_why sc_law_why (b_law_why T) rfl rfl T.g_law_ask T.F_law_ask.kp (by decide) (by decide) (by decide)
def sp_law_whole : DSp := fun ds cs P _ => ∃ d, ds = [d] ∧ knD d = true ∧ P (.bl (wholeD d)) cs
theorem r_law_whole {i : Int} {cs : Cs} {P : DP} {Z : XZ} (h : P (.bl true) cs) : sp_law_whole [.int i] cs P Z := ⟨.int i, rfl, rfl, h⟩
theorem sc_law_whole : FnScope ["_law_thing_now"] ["_law_thing_now"] (defScope s_law_whole) := ⟨rfl, rfl, rfl, by decide +kernel, rfl, by decide +kernel, by decide +kernel⟩
theorem ok_law_whole {P : Program} {w : World} {K : PySem.W.Frag} {mg : Str → Option Value} {base : Heap} (T : Txt K mg base) : FnOk P w K mg base (L2.CX P w) 1 (He.ga K "_law_whole") T.fd_law_whole ["_law_thing_now"] (spL K 1 sp_law_whole) := by
  apply ok_def (k := 0) T.F_law_whole sc_law_whole
  case hb =>
    intro cdv A outer s H E hr
    exact (dss_one (ds_ret (d_and (d_callB call_isi adq_isi rfl T.n_isinstance (by decide +kernel) (da_cons (d_var 0) (da_cons (d_ty (n := "int") rfl T.n_int (by decide +kernel)) da_nil))) (d_one (d_not (d_callB call_isi adq_isi rfl T.n_isinstance (by decide +kernel) (da_cons (d_var 0) (da_cons (d_ty (n := "bool") rfl T.n_bool (by decide +kernel)) da_nil))))))))
  case hsp =>
    skip
    rintro ds cs Q Z ⟨d, rfl, hk, h⟩ _
    show (_ : WS) (finD Q Z) [some _] _
    cases d <;> first
      | (simp [knD] at hk; done)
      | (walk_at "GO"; exact h) in
#guard_msgs (pass all) in open Nat
local macro_rules | `(tactic| walk_at "cl") => `(tactic| (first | (with_reducible refine r_law_whole ?_)))
def sp_law_size_ok : DSp := fun ds cs P _ => ∃ (d : D) (m : Int), ds = [d, .int m] ∧ knD d = true ∧ P (.bl (szD d m)) cs
theorem r_law_size_ok {d : D} {m : Int} {cs : Cs} {P : DP} {Z : XZ} (hk : knD d = true) (h : P (.bl (szD d m)) cs) : sp_law_size_ok [d, .int m] cs P Z := ⟨d, m, rfl, hk, h⟩
theorem sc_law_size_ok : FnScope ["_law_thing_now", "_law_most"] ["_law_thing_now", "_law_most"] (defScope s_law_size_ok) := ⟨rfl, rfl, rfl, by decide +kernel, rfl, by decide +kernel, by decide +kernel⟩
theorem ok_law_size_ok {P : Program} {w : World} {K : PySem.W.Frag} {mg : Str → Option Value} {base : Heap} (T : Txt K mg base) : FnOk P w K mg base (L2.CX P w) 2 (He.ga K "_law_size_ok") T.fd_law_size_ok ["_law_thing_now", "_law_most"] (spL K 2 sp_law_size_ok) := by
  apply ok_def (k := 1) T.F_law_size_ok sc_law_size_ok
  case hb =>
    intro cdv A outer s H E hr
    exact (dss_one (ds_ret (d_and (d_callN (ok_law_whole T) (hr.mono (by decide)) rfl T.g_law_whole T.F_law_whole.kp (b_law_whole T) takesD (da_cons (d_var 0) da_nil)) (d_one (d_chain_le_le d_int (d_var 0) (d_var 1))))))
  case hsp =>
    skip
    rintro ds cs Q Z ⟨d, m, rfl, hk, hN⟩ _
    show (_ : WS) (finD Q Z) [some _, some _] _
    walk_at "GO"
    refine ⟨d, rfl, hk, ?_⟩
    have e0 : szD d m = (wholeD d && szD d m) := by cases d <;> rfl
    cases hd2 : wholeD d with
    | false =>
      rw [e0, hd2, Bool.false_and] at hN
      walk_at "GO"
      exact hN
    | true =>
      obtain ⟨a, rfl⟩ : ∃ a : Int, d = .int a := by cases d <;> first | exact ⟨_, rfl⟩ | cases hd2
      walk_at "GO"
      have hN : Q (.bl (decide (1 ≤ a ∧ a ≤ m))) cs := hN
      refine ⟨fun k => ?_, fun k => ?_⟩
      · walk_at "GO"
        rw [show decide (a ≤ m) = decide (1 ≤ a ∧ a ≤ m) from decide_eq_decide.mpr ⟨fun z => ⟨decT k, z⟩, fun z => z.2⟩]
        exact hN
      · rw [show decide (1 ≤ a ∧ a ≤ m) = false from decide_eq_false (fun z => decF k z.1)] at hN
        exact hN in
#guard_msgs (pass all) in open Nat
def sp_law_new : DSp := fun ds cs P _ => ∃ (w h : Int) (r : Rat) (dn : Bool), ds = [.int w, .int h, dR r, sideD dn] ∧ P (newL w h r dn) cs
theorem r_law_new {w h : Int} {r : Rat} {dn : Bool} {cs : Cs} {P : DP} {Z : XZ} (z : P (newL w h r dn) cs) : sp_law_new [.int w, .int h, dR r, sideD dn] cs P Z := ⟨w, h, r, dn, rfl, z⟩
theorem sc_law_new : FnScope ["_law_wide", "_law_high", "_law_bound_now", "_law_lean_here"] ["_law_wide", "_law_high", "_law_bound_now", "_law_lean_here"] (defScope s_law_new) := ⟨rfl, rfl, rfl, by decide +kernel, rfl, by decide +kernel, by decide +kernel⟩
theorem ok_law_new {P : Program} {w : World} {K : PySem.W.Frag} {mg : Str → Option Value} {base : Heap} (T : Txt K mg base) : FnOk P w K mg base (L2.CX P w) 1 (He.ga K "_law_new") T.fd_law_new ["_law_wide", "_law_high", "_law_bound_now", "_law_lean_here"] (spL K 4 sp_law_new) := by
  apply ok_def (k := 0) T.F_law_new sc_law_new
  case hb =>
    intro cdv A outer s H E hr
    exact (dss_one (ds_ret (d_lockD (d_disp (dps_cons (d_tup (da_cons (d_var 0) (da_cons (d_var 1) da_nil))) (dps_cons (d_var 2) (dps_cons (d_lockD d_newK) (dps_cons (d_lockD (d_oneK d_str (d_tup (da_cons (d_var 3) (da_cons (d_lst da_nil) (da_cons (d_lst da_nil) da_nil)))))) dps_nil))))))))
  case hsp =>
    skip
    rintro ds cs Q Z ⟨w, hh, r, dn, rfl, h⟩ _
    show (_ : WS) (finD Q Z) [some _, some _, some _, some _] _
    walk_at "GO"
    intro p hp
    walk_at "GO"
    intro p1 hp1
    walk_at "GO"
    intro p2 hp2
    walk_at "GO"
    refine ⟨look_hd, ?_⟩
    rw [put_hd]
    refine r_lockK ?_
    exact h in
#guard_msgs (pass all) in open Nat
local macro_rules | `(tactic| walk_at "cl") => `(tactic| (first | with_reducible refine r_law_new ?_))
def sp_House_stand_so : DSp := fun ds cs P _ => ∃ (h dx : Addr) (n p l s d : D), ds = [.opq (.ref h), d] ∧ look h cs = some (houseM h dx n p l s) ∧ P .non (put h (houseM h dx d p l .non) cs)
theorem sc_House_stand_so : FnScope ["self", "stand"] ["self", "stand"] (defScope s_House_stand_so) := ⟨rfl, rfl, rfl, by decide +kernel, rfl, by decide +kernel, by decide +kernel⟩
theorem ok_House_stand_so {P : Program} {w : World} {K : PySem.W.Frag} {mg : Str → Option Value} {base : Heap} (T : Txt K mg base) : FnOk P w K mg base (L2.CX P w) 1 (He.ma K (He.ga K "House") "stand_so") T.fd_House_stand_so ["self", "stand"] (spL K 2 sp_House_stand_so) := by
  apply ok_def (k := 0) T.F_House_stand_so sc_House_stand_so
  case hb =>
    intro cdv A outer s H E hr
    exact (dss_cons (ds_fld (c := "House") T.cl_House T.na_House_now (d_var 1) (d_var 0))
      (dss_one (ds_fld (c := "House") T.cl_House T.na_House_shown_now d_non (d_var 0))))
  case hsp =>
    skip
    rintro ds cs Q Z ⟨hh, dx, n, p, l, s, d, rfl, e, h⟩ _
    show (_ : WS) (finD Q Z) [some _, some _] _
    walk_at "GO"
    refine r_setShown (look_put e) ?_
    rw [put_put]
    walk_at "GO"
    exact h in
#guard_msgs (pass all) in open Nat
def sp_House_undo : DSp := fun ds cs _ Z => ∃ (h : Addr) (s : StandS) (ls : List StandS), ds = [.opq (.ref h)] ∧ HouseIn h s [] ls cs ∧ Z (exn "NothingLeft") cs
theorem r_House_undo {h : Addr} {s : StandS} {ls : List StandS} {cs : Cs} {P : DP} {Z : XZ} (e : HouseIn h s [] ls cs) (z : Z (exn "NothingLeft") cs) : sp_House_undo [.opq (.ref h)] cs P Z := ⟨h, s, ls, rfl, e, z⟩
theorem sc_House_undo : FnScope ["self"] ["self"] (defScope s_House_undo) := ⟨rfl, rfl, rfl, by decide +kernel, rfl, by decide +kernel, by decide +kernel⟩
theorem ok_House_undo {P : Program} {w : World} {K : PySem.W.Frag} {mg : Str → Option Value} {base : Heap} (T : Txt K mg base) : FnOk P w K mg base (L2.CX P w) 4 (He.ma K (He.ga K "House") "undo") T.fd_House_undo ["self"] (spL K 1 sp_House_undo) := by
  apply ok_def (k := 3) T.F_House_undo sc_House_undo
  case hb =>
    intro cdv A outer s H E hr
    exact (dss_cons (ds_if (dt_eqNilM hr.units (d_fld (c := "House") T.cl_House T.na_House_past (d_var 0)) (d_lst da_nil)) (dss_one (ds_raise0 rfl takesD T.x_NothingLeft.x T.x_NothingLeft.ini T.x_NothingLeft.ty (ok_i_NothingLeft T) (hr.mono (by decide)) (b_i_NothingLeft T) .nil (fun _ => .nil) rfl fld0 rfl T.g_NothingLeft)) dss_nil)
      (dss_cons (ds_expr (d_append (d_fld (c := "House") T.cl_House T.na_House_later (d_var 0)) (da_cons (d_fld (c := "House") T.cl_House T.na_House_now (d_var 0)) da_nil)))
      (dss_one (ds_expr (d_meth T.cl_House T.m_House_stand_so (ok_House_stand_so T) (hr.mono (by decide)) (b_House_stand_so T) .nil (fun _ => .nil) takesD (d_var 0) (da_cons (d_pop (d_fld (c := "House") T.cl_House T.na_House_past (d_var 0))) da_nil))))))
  case hsp =>
    skip
    rintro ds cs Q Z ⟨hh, s, ls, rfl, ⟨dx, p, l, sh, e, hsh, ep, el, hpl⟩, h⟩ _
    show (_ : WS) (finD Q Z) [some _] _
    walk_at "GO"
    rw [show (List.map StandS.d []).isEmpty = true from rfl]
    walk_at "GO"
    exact h in
#guard_msgs (pass all) in open Nat
def sp_House_redo : DSp := fun ds cs _ Z => ∃ (h : Addr) (s : StandS) (ps : List StandS), ds = [.opq (.ref h)] ∧ HouseIn h s ps [] cs ∧ Z (exn "NothingLeft") cs
theorem r_House_redo {h : Addr} {s : StandS} {ps : List StandS} {cs : Cs} {P : DP} {Z : XZ} (e : HouseIn h s ps [] cs) (z : Z (exn "NothingLeft") cs) : sp_House_redo [.opq (.ref h)] cs P Z := ⟨h, s, ps, rfl, e, z⟩
theorem sc_House_redo : FnScope ["self"] ["self"] (defScope s_House_redo) := ⟨rfl, rfl, rfl, by decide +kernel, rfl, by decide +kernel, by decide +kernel⟩
theorem ok_House_redo {P : Program} {w : World} {K : PySem.W.Frag} {mg : Str → Option Value} {base : Heap} (T : Txt K mg base) : FnOk P w K mg base (L2.CX P w) 4 (He.ma K (He.ga K "House") "redo") T.fd_House_redo ["self"] (spL K 1 sp_House_redo) := by
  apply ok_def (k := 3) T.F_House_redo sc_House_redo
  case hb =>
    intro cdv A outer s H E hr
    exact (dss_cons (ds_if (dt_eqNilM hr.units (d_fld (c := "House") T.cl_House T.na_House_later (d_var 0)) (d_lst da_nil)) (dss_one (ds_raise0 rfl takesD T.x_NothingLeft.x T.x_NothingLeft.ini T.x_NothingLeft.ty (ok_i_NothingLeft T) (hr.mono (by decide)) (b_i_NothingLeft T) .nil (fun _ => .nil) rfl fld0 rfl T.g_NothingLeft)) dss_nil)
      (dss_cons (ds_expr (d_append (d_fld (c := "House") T.cl_House T.na_House_past (d_var 0)) (da_cons (d_fld (c := "House") T.cl_House T.na_House_now (d_var 0)) da_nil)))
      (dss_one (ds_expr (d_meth T.cl_House T.m_House_stand_so (ok_House_stand_so T) (hr.mono (by decide)) (b_House_stand_so T) .nil (fun _ => .nil) takesD (d_var 0) (da_cons (d_pop (d_fld (c := "House") T.cl_House T.na_House_later (d_var 0))) da_nil))))))
  case hsp =>
    skip
    rintro ds cs Q Z ⟨hh, s, ps, rfl, ⟨dx, p, l, sh, e, hsh, ep, el, hpl⟩, h⟩ _
    show (_ : WS) (finD Q Z) [some _] _
    walk_at "GO"
    rw [show (List.map StandS.d []).isEmpty = true from rfl]
    walk_at "GO"
    exact h in
#guard_msgs (pass all) in open Nat
def sp_law_is_part : DSp := fun ds cs P _ => ∃ d, ds = [d] ∧ knD d = true ∧ P (.bl (partD d)) cs
theorem r_law_is_part {r : Rat} {cs : Cs} {P : DP} {Z : XZ} (h : P (.bl true) cs) : sp_law_is_part [dR r] cs P Z := ⟨_, rfl, rfl, by rw [partD_dR]; exact h⟩
theorem sc_law_is_part : FnScope ["_law_thing_now"] ["_law_thing_now"] (defScope s_law_is_part) := ⟨rfl, rfl, rfl, by decide +kernel, rfl, by decide +kernel, by decide +kernel⟩
theorem ok_law_is_part {P : Program} {w : World} {K : PySem.W.Frag} {mg : Str → Option Value} {base : Heap} (T : Txt K mg base) : FnOk P w K mg base (L2.CX P w) 2 (He.ga K "_law_is_part") T.fd_law_is_part ["_law_thing_now"] (spL K 1 sp_law_is_part) := by
  apply ok_def (k := 1) T.F_law_is_part sc_law_is_part
  case hb =>
    intro cdv A outer s H E hr
    exact (dss_cons (ds_if (dt_w (dw_or (dt_not (dt_val (d_callB call_isi adq_isi rfl T.n_isinstance (by decide +kernel) (da_cons (d_var 0) (da_cons (d_ty (n := "tuple") rfl T.n_tuple (by decide +kernel)) da_nil))))) (dw_or1 (dt_ne hr.units (d_callB call_len_seq adq_len rfl T.n_len (by decide +kernel) (da_cons (d_var 0) da_nil)) d_int)))) (dss_one (ds_ret d_bl)) dss_nil)
      (dss_cons (ds_if (dt_w (dw_or (dt_not (dt_val (d_callN (ok_law_whole T) (hr.mono (by decide)) rfl T.g_law_whole T.F_law_whole.kp (b_law_whole T) takesD (da_cons (d_sub_ix (d_var 0) d_int) da_nil)))) (dw_or (dt_not (dt_val (d_callN (ok_law_whole T) (hr.mono (by decide)) rfl T.g_law_whole T.F_law_whole.kp (b_law_whole T) takesD (da_cons (d_sub_ix (d_var 0) d_int) da_nil)))) (dw_or1 (dt_lt (d_sub_ix (d_var 0) d_int) d_int))))) (dss_one (ds_ret d_bl)) dss_nil)
      (dss_one (ds_ret (d_eq hr.units (d_callN (ok_law_gcd T) (hr.mono (by decide)) rfl T.g_law_gcd T.F_law_gcd.kp (b_law_gcd T) takesD (da_cons (d_callB call_abs adq_abs rfl T.n_abs (by decide +kernel) (da_cons (d_sub_ix (d_var 0) d_int) da_nil)) (da_cons (d_sub_ix (d_var 0) d_int) da_nil))) d_int)))))
  case hsp =>
    skip
    rintro ds cs Q Z ⟨d, rfl, hk, h⟩ _
    show (_ : WS) (finD Q Z) [some _] _
    cases d <;> try first
      | (simp [knD] at hk; done)
      | (walk_at "GO"; exact h)
    rename_i xs hlen
    by_cases hl : xs.length = 2
    case neg =>
      rw [partD_len hl] at h
      walk_at "GO"
      refine ⟨fun hk2 => ?_, fun hk2 => absurd (show xs.length = 2 by have := ndecF hk2; omega) hl⟩
      walk_at "GO"
      exact h
    case pos =>
      obtain ⟨x, y, rfl⟩ : ∃ x y, xs = [x, y] := by
        match xs, hl with
        | [x, y], _ => exact ⟨x, y, rfl⟩
      have kx : knD x = true := knL_mem (show knL [x, y] = true from hk) (by simp)
      have ky : knD y = true := knL_mem (show knL [x, y] = true from hk) (by simp)
      walk_at "GO"
      refine ⟨fun hk2 => absurd hk2 (by simp), fun _ => ?_⟩
      walk_at "GO"
      refine ⟨x, rfl, kx, ?_⟩
      by_cases hx : ∃ a, x = .int a
      case neg =>
        have e : wholeD x = false := by cases x <;> first | rfl | exact absurd ⟨_, rfl⟩ hx
        have e2 : partD (.tup [x, y]) = false := by unfold partD; split <;> first | rfl | (rename_i q; cases q; exact absurd ⟨_, rfl⟩ hx)
        rw [e]
        rw [e2] at h
        walk_at "GO"
        exact h
      case pos =>
        obtain ⟨a, rfl⟩ := hx
        rw [show wholeD (.int a) = true from rfl]
        walk_at "GO"
        refine ⟨y, rfl, ky, ?_⟩
        by_cases hy : ∃ b, y = .int b
        case neg =>
          have e : wholeD y = false := by cases y <;> first | rfl | exact absurd ⟨_, rfl⟩ hy
          have e2 : partD (.tup [.int a, y]) = false := by unfold partD; split <;> first | rfl | (rename_i q; cases q; exact absurd ⟨_, rfl⟩ hy)
          rw [e]
          rw [e2] at h
          walk_at "GO"
          exact h
        case pos =>
          obtain ⟨b, rfl⟩ := hy
          rw [show wholeD (.int b) = true from rfl]
          walk_at "GO"
          refine ⟨fun hb => ?_, fun hb => ?_⟩
          · have hb0 := decT hb
            have e : partD (.tup [.int a, .int b]) = false := by
              show (decide (0 < b) && decide (Nat.gcd a.natAbs b.natAbs = 1)) = _
              rw [decide_eq_false (show ¬ 0 < b by omega), Bool.false_and]
            rw [e] at h
            walk_at "GO"
            exact h
          · have hb0 := decF hb
            have hn : b = (b.natAbs : Int) := by omega
            walk_at "GO"
            rw [abs_nat]
            refine ⟨a.natAbs, b.natAbs, by rw [← hn], ?_⟩
            walk_at "GO"
            have e : partD (.tup [.int a, .int b]) = decide ((Nat.gcd a.natAbs b.natAbs : Int) = 1) := by
              show (decide (0 < b) && decide (Nat.gcd a.natAbs b.natAbs = 1)) = _
              rw [decide_eq_true (show 0 < b by omega), Bool.true_and]
              exact decide_eq_decide.mpr ⟨fun z => by omega, fun z => by omega⟩
            rw [e] at h
            exact h in
#guard_msgs (pass all) in open Nat
local macro_rules | `(tactic| walk_at "cl") => `(tactic| (first | with_reducible refine r_law_is_part ?_))
def sp_law_is_bound : DSp := fun ds cs P _ => ∃ d : D, ds = [d] ∧ knD d = true ∧ P (.bl (hbD d)) cs
theorem r_law_is_bound {d : D} {cs : Cs} {P : DP} {Z : XZ} (hk : knD d = true) (h : P (.bl (hbD d)) cs) : sp_law_is_bound [d] cs P Z := ⟨d, rfl, hk, h⟩
theorem sc_law_is_bound : FnScope ["_law_thing_now"] ["_law_thing_now"] (defScope s_law_is_bound) := ⟨rfl, rfl, rfl, by decide +kernel, rfl, by decide +kernel, by decide +kernel⟩
theorem ok_law_is_bound {P : Program} {w : World} {K : PySem.W.Frag} {mg : Str → Option Value} {base : Heap} (T : Txt K mg base) : FnOk P w K mg base (L2.CX P w) 3 (He.ga K "_law_is_bound") T.fd_law_is_bound ["_law_thing_now"] (spL K 1 sp_law_is_bound) := by
  apply ok_def (k := 2) T.F_law_is_bound sc_law_is_bound
  case hb =>
    intro cdv A outer s H E hr
    exact (dss_one (ds_ret (d_and (d_callN (ok_law_is_part T) (hr.mono (by decide)) rfl T.g_law_is_part T.F_law_is_part.kp (b_law_is_part T) takesD (da_cons (d_var 0) da_nil)) (d_one (d_chain_le_lt (d_sub_ix (d_var 0) d_int) (d_sub_ix (d_var 0) d_int) (d_pow d_int d_int))))))
  case hsp =>
    skip
    rintro ds cs Q Z ⟨d, rfl, hk, h⟩ _
    show (_ : WS) (finD Q Z) [some _] _
    walk_at "GO"
    refine ⟨_, rfl, hk, ?_⟩
    cases hb : partD d with
    | false =>
      have e : hbD d = false := by
        cases hc : hbD d with
        | false => rfl
        | true =>
          obtain ⟨r, e, _⟩ := hbD_inv hc
          rw [e, partD_dR] at hb
          cases hb
      rw [e] at h
      walk_at "GO"
      exact h
    | true =>
      obtain ⟨r, rfl⟩ := partD_inv hb
      rw [hbD_dR] at h
      have e : (1 ≤ r) ↔ (r.den : Int) ≤ r.num := by rw [Rat.le_iff]; simp
      unfold dR
      walk_at "GO"
      by_cases h1 : (r.den : Int) ≤ r.num
      · rw [decide_eq_true (e.mpr h1), Bool.true_and] at h
        refine ⟨fun _ => ?_, fun q => absurd h1 (ndecF (by simpa using q))⟩
        walk_at "GO"
        exact h
      · rw [decide_eq_false (fun z => h1 (e.mp z)), Bool.false_and] at h
        exact ⟨fun q => absurd (decT q) h1, fun _ => h⟩ in
#guard_msgs (pass all) in open Nat
theorem sc_law : FnScope ["_law_script", "_law_bag_here", "_law_turn", "_law_wide", "_law_high", "_law_bound_now", "_law_lean_here", "_law_house", "_law_shown_now", "_law_told", "_law_words", "_law_odd", "_law_pair", "_law_edge_now", "_law_other", "_law_good", "_law_due", "_law_word", "_law_bad", "_law_plain_one"] ["_law_script"] (defScope s_law) := ⟨rfl, rfl, rfl, by decide +kernel, rfl, by decide +kernel, by decide +kernel⟩ in
#guard_msgs (pass all) in open Nat
theorem ok_law {P : Program} {w : World} {K : PySem.W.Frag} {mg : Str → Option Value} {base : Heap} (T : Txt K mg base) : FnOk P w K mg base (L2.CX P w) 13 (He.ga K "law") T.fd_law ["_law_script"] (spL K 1 (sp_law K)) := by
  apply ok_defC (k := 12) T.F_law T.cd_law sc_law
  case hb =>
    intro A outer s H E hr
    exact (dss_cons (ds_set (i := 1) sc_law.nd rfl (Or.inl rfl) (d_callN (ok_law_bag T) (hr.mono (by decide)) rfl T.g_law_bag T.F_law_bag.kp (b_law_bag T) takesD (da_cons (d_var 0) da_nil)))
      (dss_cons (ds_for passD rfl (di_range1 rfl T.n_range (da_cons d_int da_nil)) (dg_name (i := 2) sc_law.nd rfl (Or.inl rfl)) (dss_cons (ds_asg (d_tup (da_cons (d_add d_int (d_callN (ok_law_get T) (hr.mono (by decide)) rfl T.g_law_get T.F_law_get.kp (b_law_get T) takesD (da_cons (d_var 1) (da_cons d_int da_nil)))) (da_cons (d_add d_int (d_callN (ok_law_get T) (hr.mono (by decide)) rfl T.g_law_get T.F_law_get.kp (b_law_get T) takesD (da_cons (d_var 1) (da_cons d_int da_nil)))) (da_cons (d_callN (ok_law_bound T) (hr.mono (by decide)) rfl T.g_law_bound T.F_law_bound.kp (b_law_bound T) takesD (da_cons (d_var 1) da_nil)) (da_cons (d_callN (ok_law_lean T) (hr.mono (by decide)) rfl T.g_law_lean T.F_law_lean.kp (b_law_lean T) takesD (da_cons (d_var 1) da_nil)) da_nil))))) (dg_tup (n := 4) rfl (dgs_cons (dg_name (i := 3) sc_law.nd rfl (Or.inl rfl)) (dgs_cons (dg_name (i := 4) sc_law.nd rfl (Or.inl rfl)) (dgs_cons (dg_name (i := 5) sc_law.nd rfl (Or.inl rfl)) (dgs_cons (dg_name (i := 6) sc_law.nd rfl (Or.inl rfl)) dgs_nil))))))
      (dss_cons (ds_set (i := 7) sc_law.nd rfl (Or.inr rfl) (d_makeG (is := [1, 0]) (mvs := []) (ms := []) T.mk_House (ok_House___init__ T) (hr.mono (by decide)) rfl T.g_House (bg_House___init___side_bound T) (fun _ => RepL.nil) takesD (da_cons (d_var 3) (da_cons (d_var 4) da_nil)) (dk_cons (d_var 6) (dk_cons (d_var 5) dk_nil))))
      (dss_cons (ds_if (dt_not (dt_val (d_callN (ok_law_right T) (hr.mono (by decide)) rfl T.g_law_right T.F_law_right.kp (b_law_right T) takesD (da_cons (d_var 7) (da_cons (d_callN (ok_law_new T) (hr.mono (by decide)) rfl T.g_law_new T.F_law_new.kp (b_law_new T) takesD (da_cons (d_var 3) (da_cons (d_var 4) (da_cons (d_var 5) (da_cons (d_var 6) da_nil))))) da_nil))))) (dss_one (ds_ret d_bl)) dss_nil)
      (dss_cons (ds_set (i := 8) sc_law.nd rfl (Or.inl rfl) (d_catS (d_catS (d_catS (d_catS d_str (d_callTy call_str_int adq_strI rfl T.n_str (by decide +kernel) (da_cons (d_var 3) da_nil))) d_str) (d_callTy call_str_int adq_strI rfl T.n_str (by decide +kernel) (da_cons (d_var 4) da_nil))) d_str))
      (dss_cons (ds_set (i := 9) sc_law.nd rfl (Or.inl rfl) (d_lst (da_cons (d_meth0 T.cl_House T.m_House_steps (ok_House_steps T) (hr.mono (by decide)) (b_House_steps T) .nil (fun _ => .nil) takesD (d_var 7)) (da_cons (d_meth0 T.cl_House T.m_House_boxes (ok_House_boxes T) (hr.mono (by decide)) (b_House_boxes T) .nil (fun _ => .nil) takesD (d_var 7)) (da_cons (d_meth0 T.cl_House T.m_House_worst (ok_House_worst T) (hr.mono (by decide)) (b_House_worst T) .nil (fun _ => .nil) takesD (d_var 7)) (da_cons (d_meth T.cl_House T.m_House_under (ok_House_under T) (hr.mono (by decide)) (b_House_under T) .nil (fun _ => .nil) takesD (d_var 7) (da_cons (d_tup (da_cons d_int (da_cons d_int da_nil))) (da_cons (d_tup (da_cons d_int (da_cons d_int da_nil))) da_nil))) (da_cons (d_meth T.cl_House T.m_House_squares (ok_House_squares T) (hr.mono (by decide)) (b_House_squares T) .nil (fun _ => .nil) takesD (d_var 7) (da_cons d_int (da_cons d_int da_nil))) (da_cons (d_reprO T.m_House___repr__ (ok_House___repr__ T) (hr.mono (by decide)) (b_House___repr__ T) rfl T.n_repr (d_var 7)) da_nil))))))))
      (dss_cons (ds_if (dt_w (dw_or (dt_not (dt_val (d_callN (ok_law_same T 7) (hr.mono (by decide)) rfl T.g_law_same T.F_law_same.kp (b_law_same T) takesD (da_cons (d_var 9) (da_cons (d_lst (da_cons (d_tup (da_cons d_int (da_cons d_int da_nil))) (da_cons (d_lockD d_newK) (da_cons d_non (da_cons d_str (da_cons (d_lst da_nil) (da_cons (d_var 8) da_nil))))))) da_nil))))) (dw_or1 (dt_ne hr.units (d_meth T.cl_House T.m_House_weight (ok_House_weight T) (hr.mono (by decide)) (b_House_weight T) .nil (fun _ => .nil) takesD (d_var 7) (da_cons d_str da_nil)) d_int)))) (dss_one (ds_ret d_bl)) dss_nil)
      (dss_cons (ds_set (i := 10) sc_law.nd rfl (Or.inl rfl) (d_lst (da_cons (d_lam (k := 9) (q := "law.<locals>.<lambda>") (tk_law_why T) (td_why T.xcatch) takesD (hr.mono (by decide)) rfl T.g_law_why T.F_law_why.kp T.tb_law rfl (LamX.lamS_by (by show LamX.lamSB (defScope s_law) _ = true; decide +kernel)) (fun A outer s H E f c hr => (d_meth0 T.cl_House T.m_House_undo (ok_House_undo T) (hr.mono (by decide)) (b_House_undo T) .nil (fun _ => .nil) takesL (d_var 7)))) (da_cons (d_lamD (k := 9) (q := "law.<locals>.<lambda>") (a := "_law_a") (tk_law_why T) (td_why T.xcatch) takesD (hr.mono (by decide)) rfl T.g_law_why T.F_law_why.kp T.tb_law rfl (lamT_by (by show lamTB ["_law_script", "_law_bag_here", "_law_turn", "_law_wide", "_law_high", "_law_bound_now", "_law_lean_here", "_law_house", "_law_shown_now", "_law_told", "_law_words", "_law_odd", "_law_pair", "_law_edge_now", "_law_other", "_law_good", "_law_due", "_law_word", "_law_bad", "_law_plain_one"] (defScope s_law) _ = true; decide +kernel)) rfl (fun A outer s H E f c hr => (d_meth0 T.cl_House T.m_House_redo (ok_House_redo T) (hr.mono (by decide)) (b_House_redo T) .nil (fun _ => .nil) takesL (d_var 7)))) (da_cons (d_lamD (k := 9) (q := "law.<locals>.<lambda>") (a := "_law_b") (tk_law_why T) (td_why T.xcatch) takesD (hr.mono (by decide)) rfl T.g_law_why T.F_law_why.kp T.tb_law rfl (lamT_by (by show lamTB ["_law_script", "_law_bag_here", "_law_turn", "_law_wide", "_law_high", "_law_bound_now", "_law_lean_here", "_law_house", "_law_shown_now", "_law_told", "_law_words", "_law_odd", "_law_pair", "_law_edge_now", "_law_other", "_law_good", "_law_due", "_law_word", "_law_bad", "_law_plain_one"] (defScope s_law) _ = true; decide +kernel)) rfl (fun A outer s H E f c hr => (d_meth T.cl_House T.m_House_box (ok_House_box T) (hr.mono (by decide)) (b_House_box T) .nil (fun _ => .nil) takesL (d_var 7) (da_cons d_str da_nil)))) da_nil)))))
      (dss_cons (ds_if (dt_ne hr.units (d_var 10) (d_lst (da_cons d_str (da_cons d_str (da_cons d_str da_nil))))) (dss_one (ds_ret d_bl)) dss_nil)
      (dss_cons (ds_set (i := 11) sc_law.nd rfl (Or.inl rfl) (d_callN (ok_law_pick T) (hr.mono (by decide)) rfl T.g_law_pick T.F_law_pick.kp (b_law_pick T) takesD (da_cons (d_var 1) (da_cons (d_lst (da_cons d_int (da_cons d_int (da_cons d_bl (da_cons d_non (da_cons d_str (da_cons (d_neg d_int) da_nil))))))) da_nil))))
      (dss_cons (ds_set (i := 12) sc_law.nd rfl (Or.inr rfl) (d_callN (ok_law_pick T) (hr.mono (by decide)) rfl T.g_law_pick T.F_law_pick.kp (b_law_pick T) takesD (da_cons (d_var 1) (da_cons (d_lst (da_cons (d_tup (da_cons (d_var 11) (da_cons (d_var 4) da_nil))) (da_cons (d_tup (da_cons (d_var 3) (da_cons (d_var 11) da_nil))) (da_cons (d_tup (da_cons (d_var 3) (da_cons (d_var 4) da_nil))) da_nil)))) da_nil))))
      (dss_cons (ds_set (i := 13) sc_law.nd rfl (Or.inr rfl) (d_callN (ok_law_pick T) (hr.mono (by decide)) rfl T.g_law_pick T.F_law_pick.kp (b_law_pick T) takesD (da_cons (d_var 1) (da_cons (d_lst (da_cons (d_tup (da_cons d_int (da_cons d_int da_nil))) (da_cons (d_tup (da_cons (d_pow d_int d_int) (da_cons d_int da_nil))) (da_cons (d_tup (da_cons d_int (da_cons d_int da_nil))) (da_cons d_non (da_cons (d_tup (da_cons d_int (da_cons d_int da_nil))) (da_cons (d_tup (da_cons (d_sub (d_pow d_int d_int) d_int) (da_cons d_int da_nil))) da_nil))))))) da_nil))))
      (dss_cons (ds_set (i := 14) sc_law.nd rfl (Or.inr rfl) (d_callN (ok_law_pick T) (hr.mono (by decide)) rfl T.g_law_pick T.F_law_pick.kp (b_law_pick T) takesD (da_cons (d_var 1) (da_cons (d_lst (da_cons d_str (da_cons d_non (da_cons d_str (da_cons d_str da_nil))))) da_nil))))
      (dss_cons (ds_set (i := 15) sc_law.nd rfl (Or.inl rfl) (d_and (d_callN (ok_law_size_ok T) (hr.mono (by decide)) rfl T.g_law_size_ok T.F_law_size_ok.kp (b_law_size_ok T) takesD (da_cons (d_sub_ix (d_var 12) d_int) (da_cons d_int da_nil))) (d_one (d_callN (ok_law_size_ok T) (hr.mono (by decide)) rfl T.g_law_size_ok T.F_law_size_ok.kp (b_law_size_ok T) takesD (da_cons (d_sub_ix (d_var 12) d_int) (da_cons d_int da_nil))))))
      (dss_cons (ds_set (i := 10) sc_law.nd rfl (Or.inl rfl) (d_lstM (da_cons (d_tup (da_cons d_str (da_cons (d_not (d_var 15)) da_nil))) (da_cons (d_tup (da_cons d_str (da_cons (d_not (d_callN (ok_law_is_bound T) (hr.mono (by decide)) rfl T.g_law_is_bound T.F_law_is_bound.kp (b_law_is_bound T) takesD (da_cons (d_var 13) da_nil))) da_nil))) da_nil))))
      (dss_cons (ds_frzA 10 (ds_expr (d_append (d_var 10) (da_cons (d_tup (da_cons d_str (da_cons (d_notinQ hr.units (d_var 14) (d_tup (da_cons d_str (da_cons d_str da_nil)))) da_nil))) da_nil))))
      (dss_cons (ds_set (i := 16) sc_law.nd rfl (Or.inl rfl) (d_sub_ix (d_catL (d_lc rfl sc_law.nd (di_list (d_var 10)) (blkOk_by (own := [("_law_word", 17), ("_law_bad", 18)]) (N := ["_law_script", "_law_bag_here", "_law_turn", "_law_wide", "_law_high", "_law_bound_now", "_law_lean_here", "_law_house", "_law_shown_now", "_law_told", "_law_words", "_law_odd", "_law_pair", "_law_edge_now", "_law_other", "_law_good", "_law_due", "_law_word", "_law_bad", "_law_plain_one"]) (sc := defScope s_law) (by decide +kernel)) (gok_two (by decide) (by decide)) (fun _ _ _ _ _ => (pg_tup (n := 2) rfl (pgs_cons (pg_name (i := 17) sc_law.nd rfl (Or.inl rfl)) (pgs_cons (pg_name (i := 18) sc_law.nd rfl (Or.inl rfl)) pgs_nil)))) (fun _ _ _ _ _ => (dts_one (dt_val (d_var 18)))) (fun _ _ _ _ _ => (d_var 17))) (d_lst (da_cons d_str da_nil))) d_int))
      (dss_one (ds_if (dt_ne hr.units (d_lam (k := 9) (q := "law.<locals>.<lambda>") (tk_law_why T) (td_why T.xcatch) takesD (hr.mono (by decide)) rfl T.g_law_why T.F_law_why.kp T.tb_law rfl (LamX.lamS_by (by show LamX.lamSB (defScope s_law) _ = true; decide +kernel)) (fun A outer s H E f c hr => (d_makeG (is := [0, 1]) (mvs := []) (ms := []) T.mk_House (ok_House___init__ T) (hr.mono (by decide)) rfl T.g_House (bg_House___init___bound_side T) (fun _ => RepL.nil) takesL (da_cons (d_sub_ix (d_var 12) d_int) (da_cons (d_sub_ix (d_var 12) d_int) da_nil)) (dk_cons (d_var 13) (dk_cons (d_var 14) dk_nil))))) (d_var 16)) (dss_one (ds_ret d_bl)) dss_nil)))))))))))))))))))
      (dss_cons (ds_set (i := 19) sc_law.nd rfl (Or.inl rfl) (d_makeD (dds := [.tup [.int 2, .int 1], .str "down"]) T.mk_House (ok_House___init__ T) (hr.mono (by decide)) rfl T.g_House (b0_House___init__ T) (fun _ => (RepL.cons (gtup_rep T.k_BOUND) (RepL.cons (.str _) RepL.nil))) takesD (da_cons d_int (da_cons d_int da_nil))))
      (dss_cons (ds_if (dt_ne hr.units (d_lst (da_cons (show DE _ _ _ (wC (.tup [.int 2, .int 1])) from d_gtup (vs := [.int 2, .int 1]) rfl T.g_BOUND T.k_BOUND) (da_cons (d_gint rfl T.c_MOST_NAMES) (da_cons (d_gint rfl T.c_MOST_DEEP) (da_cons (d_gint rfl T.c_MOST_CHILDREN) (da_cons (d_gint rfl T.c_MOST_THING) da_nil)))))) (d_lst (da_cons (d_tup (da_cons d_int (da_cons d_int da_nil))) (da_cons d_int (da_cons d_int (da_cons d_int (da_cons d_int da_nil))))))) (dss_one (ds_ret d_bl)) dss_nil)
      (dss_one (ds_ret (d_and (d_eq hr.units (d_gint rfl T.c_MOST_WEIGHT) d_int) (d_one (d_callN (ok_law_right T) (hr.mono (by decide)) rfl T.g_law_right T.F_law_right.kp (b_law_right T) takesD (da_cons (d_var 19) (da_cons (d_callN (ok_law_new T) (hr.mono (by decide)) rfl T.g_law_new T.F_law_new.kp (b_law_new T) takesD (da_cons d_int (da_cons d_int (da_cons (d_tup (da_cons d_int (da_cons d_int da_nil))) (da_cons d_str da_nil))))) da_nil)))))))))))
  case hsp =>
    skip
    rintro ds cs Q Z ⟨ns, rfl, hl, hcs, h⟩ _
    show (_ : WS) (finD Q Z) [some _, none, none, none, none, none, none, none, none, none, none, none, none, none, none, none, none, none, none, none] _
    have htb : look (tabA K "law") cs = some (.tbl "law.<locals>.<lambda>") := by subst hcs; simp [tbls, tbD, look]
    clear hcs
    walk_at "GO"
    refine ⟨ns, rfl, fun p b hp hb => ?_⟩
    have hne := look_ne htb hp
    have hbag : BagIn p ((p, b) :: cs) := ⟨b, by simp [look], hb⟩
    have htb1 : look (tabA K "law") ((p, b) :: cs) = some (.tbl "law.<locals>.<lambda>") := (look_cons_ne hne).trans htb
    walk_at "GO"
    refine ⟨⟨by decide, by decide⟩, ?_⟩
    refine r_loop0 (fun i ρ cs' => ∃ (c2 c3 c4 c5 c6 c7 c8 c9 c10 c11 c12 c13 c14 c15 c16 c17 c18 c19 : Option D), ρ = [some (.lst (ns.map D.int)), some (.opq (.ref p)), c2, c3, c4, c5, c6, c7, c8, c9, c10, c11, c12, c13, c14, c15, c16, c17, c18, c19] ∧ BagIn p cs' ∧ look (tabA K "law") cs' = some (.tbl "law.<locals>.<lambda>")) ⟨_, _, _, _, _, _, _, _, _, _, _, _, _, _, _, _, _, _, rfl, ⟨hbag, htb1⟩⟩ ?_ ?_
    · rintro i d ρ ca N hd ⟨c2, c3, c4, c5, c6, c7, c8, c9, c10, c11, c12, c13, c14, c15, c16, c17, c18, c19, rfl, ⟨hb1, ht1⟩⟩ hN
      walk_at "GO"
      intro w c1 w0 w1 st1
      walk_at "GO"
      intro g c2 g0 g1 st2
      walk_at "GO"
      intro r c3 r0 r1 st3
      walk_at "GO"
      intro dn c4 st4
      walk_at "GO"
      have hb4 := st4.bag
      have ht4 : look (tabA K "law") c4 = some (.tbl "law.<locals>.<lambda>") := by walk_at "tb"
      intro x dx hx
      have ok : StOk (newS (1 + w) (1 + g) r dn) := newS_ok (by omega) (by omega) ⟨r0, r1⟩
      show sp_House___init__ [.opq (.ref x), .int (1 + w), .int (1 + g), dR r, sideD dn] _ _ _
      refine r_House_new hx (by omega) (by omega) ⟨r0, r1⟩ fun c5 hi5 k5 o5 => ?_
      have H5 := LawH.new hb4 ht4 hi5 k5 o5
      refine ⟨rfl, ?_⟩
      walk_at "GO"
      obtain ⟨n1, l1⟩ := num3 (w := 1 + w) (by omega)
      obtain ⟨n2, l2⟩ := num3 (w := 1 + g) (by omega)
      have k6 : ("House(" : Str).length = 6 := by decide
      have k3 : (" x " : Str).length = 3 := by decide
      have k11 : (", 0 things)" : Str).length = 11 := by decide
      refine r_strN l1 ?_
      refine r_catS (by show _ + (numT (1 + w)).length ≤ _; omega) ?_
      walk_at "GO"
      refine r_catS (by rw [lenApp]; show _ + (numT (1 + w)).length + _ ≤ _; omega) ?_
      walk_at "GO"
      refine r_strN l2 ?_
      refine r_catS (by rw [lenApp, lenApp]; show _ + (numT (1 + w)).length + _ + (numT (1 + g)).length ≤ _; omega) ?_
      walk_at "GO"
      refine r_catS (by rw [lenApp, lenApp, lenApp]; show _ + (numT (1 + w)).length + _ + (numT (1 + g)).length + _ ≤ _; omega) ?_
      rw [show ("House(" ++ ((toString (1 + w) : String) : Str) ++ " x " ++ ((toString (1 + g) : String) : Str) ++ ", 0 things)" : Str) = houseT (1 + w) (1 + g) 0 from houseT0]
      walk_at "GO"
      refine r_House_boxes hi5 fun c6 hi6 f6 => ?_
      have H6 := H5.step hi6 f6
      walk_at "GO"
      refine r_House_worst hi6 fun c7 hi7 f7 => ?_
      have H7 := H6.step hi7 f7
      walk_at "GO"
      refine r_House_under hi7 fun c8 hi8 f8 => ?_
      have H8 := H7.step hi8 f8
      walk_at "GO"
      refine r_House_squares (C := 3) (R := 2) hi8 ok (by decide) (by decide) fun c9 hi9 f9 => ?_
      have H9 := H8.step hi9 f9
      have ht9 := H9.tb
      have hb9 := H9.bag
      clear H5 H6 H7 H8 f6 f7 f8 f9 hi5 hi6 hi7 hi8 k5 o5 st1 st2 st3 st4 hb4 ht4
      walk_at "GO"
      refine ⟨_, rfl, ?_⟩
      walk_at "GO"
      intro q1 hq1
      walk_at "GO"
      refine r_law_same rfl ?_
      walk_at "GO"
      refine r_House_weight hi9.at_ ?_
      walk_at "GO"
      rw [show (!decide ((0 : Int) = 0)) = false from rfl]
      walk_at "GO"
      refine r_House_undo hi9 ?_
      walk_at "GO"
      refine r_House_redo hi9 ?_
      walk_at "GO"
      refine r_House_box hi9 fun c10 hi10 f10 => ?_
      have H10 := H9.step hi10 f10
      have ht10 := H10.tb
      have hb10 := H10.bag
      walk_at "GO"
      refine ⟨rfl, rfl, ?_⟩
      rw [show eqD (.lst [.str "NothingLeft", .str "NothingLeft", .str "Bare"]) (.lst [.str "NothingLeft", .str "NothingLeft", .str "Bare"]) = true from rfl]
      clear H9 H10 f10 hi9 hi10 ht9 hb9 hx
      walk_at "GO"
      intro odd c11 hodd st11
      have ko : knD odd = true := allMem (p := knD) rfl hodd
      walk_at "GO"
      intro pair c12 hpair st12
      obtain ⟨a, bb, rfl, ka, kb⟩ := prK_inv (allMem (p := prK) (by show ((knD odd && true) && ((true && knD odd) && ((true && true) && true))) = true; rw [ko]; rfl) hpair)
      walk_at "GO"
      intro edge c13 hedge st13
      have ke : knD edge = true := allMem (p := knD) rfl hedge
      walk_at "GO"
      intro other c14 hother st14
      have kt : plD 20 other = true := allMem (p := plD 20) rfl hother
      have hb14 := st14.bag
      have ht14 : look (tabA K "law") c14 = some (.tbl "law.<locals>.<lambda>") := by walk_at "tb"
      clear hodd hpair hedge hother st11 st12 st13 st14
      walk_at "G1"
      refine r_key (fun ρ cs' => ∃ (c2 c3 c4 c5 c6 c7 c8 c9 c10 c11 c16 c17 c18 c19 : Option D), ρ = [some (.lst (ns.map D.int)), some (.opq (.ref p)), c2, c3, c4, c5, c6, c7, c8, c9, c10, c11, some (.tup [a, bb]), some (edge), some (other), some (.bl (szD a 1000 && szD bb 1000)), c16, c17, c18, c19] ∧ BagIn p cs' ∧ look (tabA K "law") cs' = some (.tbl "law.<locals>.<lambda>")) ?_ (fun nx key => ?_)
      case refine_2 =>
        walk_at "GO"
        refine r_law_size_ok ka ?_
        walk_at "GO"
        refine ⟨fun k => ?_, fun k => ?_⟩
        · walk_at "GO"
          refine r_law_size_ok kb ?_
          walk_at "GO"
          rw [show szD bb 1000 = (szD a 1000 && szD bb 1000) by rw [k, Bool.true_and]]
          exact key _ _ ⟨_, _, _, _, _, _, _, _, _, _, _, _, _, _, rfl, ⟨hb14, ht14⟩⟩
        · walk_at "GO"
          rw [show D.bl false = D.bl (szD a 1000 && szD bb 1000) by rw [k, Bool.false_and]]
          exact key _ _ ⟨_, _, _, _, _, _, _, _, _, _, _, _, _, _, rfl, ⟨hb14, ht14⟩⟩
      clear hb14 ht14
      rintro ρ cb ⟨c2, c3, c4, c5, c6, c7, c8, c9, c10, c11, c16, c17, c18, c19, rfl, ⟨hb15, ht15⟩⟩
      walk_at "GO"
      refine r_law_is_bound ke ?_
      walk_at "GO"
      intro pw hpw
      walk_at "GO"
      refine r_notinQ rfl kt ?_
      walk_at "GO"
      rw [show ([D.str "down", D.str "across"].any fun z => eqD z other) = sideB other from rfl]
      have hf := List.length_filter_le (fun q : Str × Bool => q.2) (dueL (szD a 1000 && szD bb 1000) (hbD edge) (sideB other))
      have hd3 : (dueL (szD a 1000 && szD bb 1000) (hbD edge) (sideB other)).length = 3 := rfl
      refine ⟨(show 3 ≤ 100000 by decide), ?_⟩
      refine r_cfmE (l := dueL (szD a 1000 && szD bb 1000) (hbD edge) (sideB other)) (g := fun q => D.tup [.str q.1, .bl q.2]) rfl (fun q => q.2) (fun q => D.str q.1) (fun q N N' hm n1 n2 => ?_) ?_
      · walk_at "GO"
        refine ⟨fun k => ?_, n2⟩
        walk_at "GO"
        exact n1 k
      walk_at "GO"
      refine r_ixL (dueL_at a bb edge other) ?_
      walk_at "GO"
      intro x2 dx2 hx2
      show sp_House___init__ [.opq (.ref x2), a, bb, edge, other] _ _ _
      refine r_House_newX hx2 ka kb ke kt ⟨fun e cs' fr => ?_, fun e cs' fr => ?_⟩
      · have hbz := hb15.fr (cs' := cs') fun m => fr _ m
        have htz := fr _ _ ht15
        refine ⟨rfl, ?_⟩
        walk_at "GO"
        rw [e, show (!decide (("" : Str) = "")) = false from rfl]
        walk_at "GO"
        exact hN _ _ ⟨_, _, _, _, _, _, _, _, _, _, _, _, _, _, _, _, _, _, rfl, ⟨hbz, htz⟩⟩
      · have hbz := hb15.fr (cs' := cs') fun m => fr _ m
        have htz := fr _ _ ht15
        have hin : whyNew a bb edge other ∈ exL := by rcases whyNew_in e with z | z | z <;> rw [z] <;> decide
        refine ⟨hin, _, rfl, ?_⟩
        walk_at "GO"
        exact hN _ _ ⟨_, _, _, _, _, _, _, _, _, _, _, _, _, _, _, _, _, _, rfl, ⟨hbz, htz⟩⟩
    · rintro ρ ca ⟨c2, c3, c4, c5, c6, c7, c8, c9, c10, c11, c12, c13, c14, c15, c16, c17, c18, c19, rfl, ⟨hb1, ht1⟩⟩
      walk_at "GO"
      intro x dx hx
      have ok : StOk (newS 30 20 2 true) := newS_ok (by decide) (by decide) (by decide)
      show sp_House___init__ [.opq (.ref x), .int 30, .int 20, dR 2, sideD true] _ _ _
      refine r_House_new hx (by decide) (by decide) (by decide) fun c5 hi5 k5 o5 => ?_
      refine ⟨rfl, ?_⟩
      walk_at "GO"
      refine ⟨rfl, rfl, ?_⟩
      rw [show eqD (.lst [.tup [.int 2, .int 1], .int 40, .int 4, .int 12, .int 10000]) (.lst [.tup [.int 2, .int 1], .int 40, .int 4, .int 12, .int 10000]) = true from rfl]
      walk_at "GO"
      refine ⟨fun _ => ?_, fun q => absurd q (by decide)⟩
      walk_at "GO"
      refine r_law_new (w := 30) (h := 20) (r := 2) (dn := true) ?_
      walk_at "GO"
      exact h _ in
#guard_msgs (pass all) in open Nat
theorem tb_at {K : PySem.W.Frag} {H : Hp} (hT : ∀ p ∈ tfD.map (He.cT K), H p.2 = some (.tbl #[])) : ∀ p ∈ tbD K, H p.1 = some (.tbl #[]) := by
  intro p hp
  have z : p.1 ∈ tfD.map fun q => (He.cT K q).2 := (show (tbD K).map (·.1) = tfD.map (fun q => (He.cT K q).2) from rfl) ▸ List.mem_map.mpr ⟨p, hp, rfl⟩
  obtain ⟨q, hq, e⟩ := List.mem_map.mp z
  rw [← e]
  exact hT _ (List.mem_map.mpr ⟨q, hq, rfl⟩) in
#guard_msgs (pass all) in open Nat
theorem facts {K : PySem.W.Frag} {h base : Heap} {mg : Str → Option Value} {w : World} (X : K.In h) (G : h.Ns mainGlobals mg) (cx : He.SaysX faD fnD [] tfD exB w h K) (TB : ∀ p ∈ tfD, LamX.TabB base mg (He.cT K p).1 (He.cT K p).2) : Nonempty (Txt K mg base) := by
  have c : He.SaysD faD fnD K := cx.t.d
  obtain ⟨ex1, ex2⟩ := Bool.and_eq_true_iff.mp cx.more
  obtain ⟨ex3, ex4⟩ := Bool.and_eq_true_iff.mp ex2
  obtain ⟨fd_Stand___init__, F_Stand___init__⟩ := c.def_ 0 (d := dd_Stand___init__) rfl
  obtain ⟨fd_is_whole, F_is_whole⟩ := c.def_ 1 (d := dd_is_whole) rfl
  obtain ⟨fd_is_size, F_is_size⟩ := c.def_ 2 (d := dd_is_size) rfl
  obtain ⟨fd_need_measures, F_need_measures⟩ := c.def_ 3 (d := dd_need_measures) rfl
  obtain ⟨fd_common, F_common⟩ := c.def_ 4 (d := dd_common) rfl
  obtain ⟨fd_is_part, F_is_part⟩ := c.def_ 5 (d := dd_is_part) rfl
  obtain ⟨fd_is_bound, F_is_bound⟩ := c.def_ 6 (d := dd_is_bound) rfl
  obtain ⟨fd_need_bound, F_need_bound⟩ := c.def_ 7 (d := dd_need_bound) rfl
  obtain ⟨fd_need_side, F_need_side⟩ := c.def_ 8 (d := dd_need_side) rfl
  obtain ⟨fd_Nest___init__, F_Nest___init__⟩ := c.def_ 9 (d := dd_Nest___init__) rfl
  obtain ⟨fd_House___init__, F_House___init__⟩ := c.def_ 10 (d := dd_House___init__) rfl
  obtain ⟨fd_law_bag, F_law_bag⟩ := c.def_ 11 (d := dd_law_bag) rfl
  obtain ⟨fd_House_steps, F_House_steps⟩ := c.def_ 12 (d := dd_House_steps) rfl
  obtain ⟨fd_Stand_order, F_Stand_order⟩ := c.def_ 13 (d := dd_Stand_order) rfl
  obtain ⟨fd_Stand_within, F_Stand_within⟩ := c.def_ 14 (d := dd_Stand_within) rfl
  obtain ⟨fd_Stand_weight_of, F_Stand_weight_of⟩ := c.def_ 15 (d := dd_Stand_weight_of) rfl
  obtain ⟨fd_box_of, F_box_of⟩ := c.def_ 16 (d := dd_box_of) rfl
  obtain ⟨fd_Stand_boxes_in, F_Stand_boxes_in⟩ := c.def_ 17 (d := dd_Stand_boxes_in) rfl
  obtain ⟨fd_Stand_boxes, F_Stand_boxes⟩ := c.def_ 18 (d := dd_Stand_boxes) rfl
  obtain ⟨fd_House_all_boxes, F_House_all_boxes⟩ := c.def_ 19 (d := dd_House_all_boxes) rfl
  obtain ⟨fd_House_boxes, F_House_boxes⟩ := c.def_ 20 (d := dd_House_boxes) rfl
  obtain ⟨fd_shape_by, F_shape_by⟩ := c.def_ 21 (d := dd_shape_by) rfl
  obtain ⟨fd_greatest, F_greatest⟩ := c.def_ 22 (d := dd_greatest) rfl
  obtain ⟨fd_House_worst, F_House_worst⟩ := c.def_ 23 (d := dd_House_worst) rfl
  obtain ⟨fd_lies_in, F_lies_in⟩ := c.def_ 24 (d := dd_lies_in) rfl
  obtain ⟨fd_House_under, F_House_under⟩ := c.def_ 25 (d := dd_House_under) rfl
  obtain ⟨fd_lines_of, F_lines_of⟩ := c.def_ 26 (d := dd_lines_of) rfl
  obtain ⟨fd_drawn, F_drawn⟩ := c.def_ 27 (d := dd_drawn) rfl
  obtain ⟨fd_House_squares, F_House_squares⟩ := c.def_ 28 (d := dd_House_squares) rfl
  obtain ⟨fd_House___repr__, F_House___repr__⟩ := c.def_ 29 (d := dd_House___repr__) rfl
  obtain ⟨fd_law_get, F_law_get⟩ := c.def_ 30 (d := dd_law_get) rfl
  obtain ⟨fd_law_pick, F_law_pick⟩ := c.def_ 31 (d := dd_law_pick) rfl
  obtain ⟨fd_law_all_names, F_law_all_names⟩ := c.def_ 32 (d := dd_law_all_names) rfl
  obtain ⟨fd_law_order, F_law_order⟩ := c.def_ 33 (d := dd_law_order) rfl
  obtain ⟨fd_law_inside, F_law_inside⟩ := c.def_ 34 (d := dd_law_inside) rfl
  obtain ⟨fd_law_weigh, F_law_weigh⟩ := c.def_ 35 (d := dd_law_weigh) rfl
  obtain ⟨fd_law_boxes_in, F_law_boxes_in⟩ := c.def_ 36 (d := dd_law_boxes_in) rfl
  obtain ⟨fd_law_boxes, F_law_boxes⟩ := c.def_ 37 (d := dd_law_boxes) rfl
  obtain ⟨fd_law_same, F_law_same⟩ := c.def_ 38 (d := dd_law_same) rfl
  obtain ⟨fd_House___len__, F_House___len__⟩ := c.def_ 39 (d := dd_House___len__) rfl
  obtain ⟨fd_House_names, F_House_names⟩ := c.def_ 40 (d := dd_House_names) rfl
  obtain ⟨fd_House_size, F_House_size⟩ := c.def_ 41 (d := dd_House_size) rfl
  obtain ⟨fd_House_bound, F_House_bound⟩ := c.def_ 42 (d := dd_House_bound) rfl
  obtain ⟨fd_Stand_known, F_Stand_known⟩ := c.def_ 43 (d := dd_Stand_known) rfl
  obtain ⟨fd_need_known, F_need_known⟩ := c.def_ 44 (d := dd_need_known) rfl
  obtain ⟨fd_House_need_any, F_House_need_any⟩ := c.def_ 45 (d := dd_House_need_any) rfl
  obtain ⟨fd_House_weight, F_House_weight⟩ := c.def_ 46 (d := dd_House_weight) rfl
  obtain ⟨fd_Stand_is_nest, F_Stand_is_nest⟩ := c.def_ 47 (d := dd_Stand_is_nest) rfl
  obtain ⟨fd_need_nest, F_need_nest⟩ := c.def_ 48 (d := dd_need_nest) rfl
  obtain ⟨fd_House_side, F_House_side⟩ := c.def_ 49 (d := dd_House_side) rfl
  obtain ⟨fd_House_children, F_House_children⟩ := c.def_ 50 (d := dd_House_children) rfl
  obtain ⟨fd_House_rows, F_House_rows⟩ := c.def_ 51 (d := dd_House_rows) rfl
  obtain ⟨fd_House_box, F_House_box⟩ := c.def_ 52 (d := dd_House_box) rfl
  obtain ⟨fd_law_right, F_law_right⟩ := c.def_ 53 (d := dd_law_right) rfl
  obtain ⟨fd_law_gcd, F_law_gcd⟩ := c.def_ 54 (d := dd_law_gcd) rfl
  obtain ⟨fd_law_part, F_law_part⟩ := c.def_ 55 (d := dd_law_part) rfl
  obtain ⟨fd_law_bound, F_law_bound⟩ := c.def_ 56 (d := dd_law_bound) rfl
  obtain ⟨fd_law_lean, F_law_lean⟩ := c.def_ 57 (d := dd_law_lean) rfl
  obtain ⟨fd_law_ask, F_law_ask⟩ := c.def_ 58 (d := dd_law_ask) rfl
  obtain ⟨fd_law_why, F_law_why⟩ := c.def_ 59 (d := dd_law_why) rfl
  obtain ⟨fd_law_whole, F_law_whole⟩ := c.def_ 60 (d := dd_law_whole) rfl
  obtain ⟨fd_law_size_ok, F_law_size_ok⟩ := c.def_ 61 (d := dd_law_size_ok) rfl
  obtain ⟨fd_law_new, F_law_new⟩ := c.def_ 62 (d := dd_law_new) rfl
  obtain ⟨fd_House_stand_so, F_House_stand_so⟩ := c.def_ 63 (d := dd_House_stand_so) rfl
  obtain ⟨fd_House_undo, F_House_undo⟩ := c.def_ 64 (d := dd_House_undo) rfl
  obtain ⟨fd_House_redo, F_House_redo⟩ := c.def_ 65 (d := dd_House_redo) rfl
  obtain ⟨fd_law_is_part, F_law_is_part⟩ := c.def_ 66 (d := dd_law_is_part) rfl
  obtain ⟨fd_law_is_bound, F_law_is_bound⟩ := c.def_ 67 (d := dd_law_is_bound) rfl
  obtain ⟨fd_law, F_law⟩ := c.def_ 68 (d := dd_law) rfl
  obtain ⟨fd_i_CutError, F_i_CutError⟩ := c.def_ 69 (d := dd_i_CutError) rfl
  obtain ⟨fd_i_Missing, F_i_Missing⟩ := c.def_ 70 (d := dd_i_Missing) rfl
  obtain ⟨fd_i_NothingLeft, F_i_NothingLeft⟩ := c.def_ 71 (d := dd_i_NothingLeft) rfl
  obtain ⟨fd_i_BadBox, F_i_BadBox⟩ := c.def_ 72 (d := dd_i_BadBox) rfl
  obtain ⟨fd_i_BadSide, F_i_BadSide⟩ := c.def_ 73 (d := dd_i_BadSide) rfl
  obtain ⟨fd_i_BadSizes, F_i_BadSizes⟩ := c.def_ 74 (d := dd_i_BadSizes) rfl
  obtain ⟨fd_i_BadBound, F_i_BadBound⟩ := c.def_ 75 (d := dd_i_BadBound) rfl
  obtain ⟨fd_i_NoName, F_i_NoName⟩ := c.def_ 76 (d := dd_i_NoName) rfl
  obtain ⟨fd_i_NoNest, F_i_NoNest⟩ := c.def_ 77 (d := dd_i_NoNest) rfl
  obtain ⟨fd_i_Bare, F_i_Bare⟩ := c.def_ 78 (d := dd_i_Bare) rfl
  exact ⟨{ g_CutError := He.glo_ok X G (c.fact 94 (f := .glo "CutError") rfl), g_Missing := He.glo_ok X G (c.fact 95 (f := .glo "Missing") rfl), g_NothingLeft := He.glo_ok X G (c.fact 96 (f := .glo "NothingLeft") rfl), g_BadBox := He.glo_ok X G (c.fact 97 (f := .glo "BadBox") rfl), g_BadSide := He.glo_ok X G (c.fact 98 (f := .glo "BadSide") rfl), g_BadSizes := He.glo_ok X G (c.fact 99 (f := .glo "BadSizes") rfl), g_BadBound := He.glo_ok X G (c.fact 100 (f := .glo "BadBound") rfl), g_NoName := He.glo_ok X G (c.fact 101 (f := .glo "NoName") rfl), g_NoNest := He.glo_ok X G (c.fact 102 (f := .glo "NoNest") rfl), g_Bare := He.glo_ok X G (c.fact 103 (f := .glo "Bare") rfl), g_BOUND := He.glo_ok X G (c.fact 104 (f := .glo "BOUND") rfl), k_BOUND := (of_decide_eq_true ex4).2, x_CutError := DL.xclassB_ok (List.all_eq_true.mp ex1 (.v, "CutError") (by decide)), fd_i_CutError := fd_i_CutError, F_i_CutError := F_i_CutError, x_Missing := DL.xclassB_ok (List.all_eq_true.mp ex1 (.l, "Missing") (by decide)), fd_i_Missing := fd_i_Missing, F_i_Missing := F_i_Missing, x_NothingLeft := DL.xclassB_ok (List.all_eq_true.mp ex1 (.i, "NothingLeft") (by decide)), fd_i_NothingLeft := fd_i_NothingLeft, F_i_NothingLeft := F_i_NothingLeft, x_BadBox := DL.xclassB_ok (List.all_eq_true.mp ex1 (.v, "BadBox") (by decide)), fd_i_BadBox := fd_i_BadBox, F_i_BadBox := F_i_BadBox, x_BadSide := DL.xclassB_ok (List.all_eq_true.mp ex1 (.v, "BadSide") (by decide)), fd_i_BadSide := fd_i_BadSide, F_i_BadSide := F_i_BadSide, x_BadSizes := DL.xclassB_ok (List.all_eq_true.mp ex1 (.v, "BadSizes") (by decide)), fd_i_BadSizes := fd_i_BadSizes, F_i_BadSizes := F_i_BadSizes, x_BadBound := DL.xclassB_ok (List.all_eq_true.mp ex1 (.v, "BadBound") (by decide)), fd_i_BadBound := fd_i_BadBound, F_i_BadBound := F_i_BadBound, x_NoName := DL.xclassB_ok (List.all_eq_true.mp ex1 (.l, "NoName") (by decide)), fd_i_NoName := fd_i_NoName, F_i_NoName := F_i_NoName, x_NoNest := DL.xclassB_ok (List.all_eq_true.mp ex1 (.l, "NoNest") (by decide)), fd_i_NoNest := fd_i_NoNest, F_i_NoNest := F_i_NoNest, x_Bare := DL.xclassB_ok (List.all_eq_true.mp ex1 (.l, "Bare") (by decide)), fd_i_Bare := fd_i_Bare, F_i_Bare := F_i_Bare, n_IndexError := He.free_ok X G (c.fact 105 (f := .free "IndexError") rfl), n_LookupError := He.free_ok X G (c.fact 106 (f := .free "LookupError") rfl), n_ValueError := He.free_ok X G (c.fact 107 (f := .free "ValueError") rfl), xcatch := DL.catch_ok (cl := ["CutError", "Missing", "NothingLeft"]) (Bool.and_eq_true_iff.mp ex3).1, cl_Stand := He.cls_ok (c.fact 108 (f := .cls "Stand") rfl), g_Stand := He.glo_ok X G (c.fact 109 (f := .glo "Stand") rfl), na_Stand_measures := He.noat_ok (c.fact 110 (f := .noat "Stand" "measures") rfl), na_Stand_most := He.noat_ok (c.fact 111 (f := .noat "Stand" "most") rfl), na_Stand_weighed := He.noat_ok (c.fact 112 (f := .noat "Stand" "weighed") rfl), na_Stand_held := He.noat_ok (c.fact 113 (f := .noat "Stand" "held") rfl), cl_Nest := He.cls_ok (c.fact 114 (f := .cls "Nest") rfl), g_Nest := He.glo_ok X G (c.fact 115 (f := .glo "Nest") rfl), na_Nest_facing := He.noat_ok (c.fact 116 (f := .noat "Nest" "facing") rfl), na_Nest_inner := He.noat_ok (c.fact 117 (f := .noat "Nest" "inner") rfl), na_Nest_lines := He.noat_ok (c.fact 118 (f := .noat "Nest" "lines") rfl), cl_House := He.cls_ok (c.fact 119 (f := .cls "House") rfl), g_House := He.glo_ok X G (c.fact 120 (f := .glo "House") rfl), na_House_now := He.noat_ok (c.fact 121 (f := .noat "House" "now") rfl), na_House_past := He.noat_ok (c.fact 122 (f := .noat "House" "past") rfl), na_House_later := He.noat_ok (c.fact 123 (f := .noat "House" "later") rfl), na_House_shown_now := He.noat_ok (c.fact 124 (f := .noat "House" "shown_now") rfl), cd_law := DL.code_of F_law, tb_law := TB ("law", none) (by decide), fd_Stand___init__ := fd_Stand___init__, F_Stand___init__ := F_Stand___init__, mk_Stand := He.mkr_ok (c.fact 0 (f := .mkr "Stand") rfl), fd_is_whole := fd_is_whole, F_is_whole := F_is_whole, g_is_whole := He.glo_ok X G (c.fact 1 (f := .glo "is_whole") rfl), fd_is_size := fd_is_size, F_is_size := F_is_size, g_is_size := He.glo_ok X G (c.fact 2 (f := .glo "is_size") rfl), fd_need_measures := fd_need_measures, F_need_measures := F_need_measures, g_need_measures := He.glo_ok X G (c.fact 3 (f := .glo "need_measures") rfl), fd_common := fd_common, F_common := F_common, g_common := He.glo_ok X G (c.fact 4 (f := .glo "common") rfl), fd_is_part := fd_is_part, F_is_part := F_is_part, g_is_part := He.glo_ok X G (c.fact 5 (f := .glo "is_part") rfl), fd_is_bound := fd_is_bound, F_is_bound := F_is_bound, g_is_bound := He.glo_ok X G (c.fact 6 (f := .glo "is_bound") rfl), fd_need_bound := fd_need_bound, F_need_bound := F_need_bound, g_need_bound := He.glo_ok X G (c.fact 7 (f := .glo "need_bound") rfl), fd_need_side := fd_need_side, F_need_side := F_need_side, g_need_side := He.glo_ok X G (c.fact 8 (f := .glo "need_side") rfl), fd_Nest___init__ := fd_Nest___init__, F_Nest___init__ := F_Nest___init__, mk_Nest := He.mkr_ok (c.fact 9 (f := .mkr "Nest") rfl), fd_House___init__ := fd_House___init__, F_House___init__ := F_House___init__, mk_House := He.mkr_ok (c.fact 10 (f := .mkr "House") rfl), fd_law_bag := fd_law_bag, F_law_bag := F_law_bag, g_law_bag := He.glo_ok X G (c.fact 11 (f := .glo "_law_bag") rfl), fd_House_steps := fd_House_steps, F_House_steps := F_House_steps, m_House_steps := He.meth_ok (c.fact 12 (f := .meth "House" "steps") rfl), fd_Stand_order := fd_Stand_order, F_Stand_order := F_Stand_order, m_Stand_order := He.meth_ok (c.fact 13 (f := .meth "Stand" "order") rfl), fd_Stand_within := fd_Stand_within, F_Stand_within := F_Stand_within, m_Stand_within := He.meth_ok (c.fact 14 (f := .meth "Stand" "within") rfl), fd_Stand_weight_of := fd_Stand_weight_of, F_Stand_weight_of := F_Stand_weight_of, m_Stand_weight_of := He.meth_ok (c.fact 15 (f := .meth "Stand" "weight_of") rfl), fd_box_of := fd_box_of, F_box_of := F_box_of, g_box_of := He.glo_ok X G (c.fact 16 (f := .glo "box_of") rfl), fd_Stand_boxes_in := fd_Stand_boxes_in, F_Stand_boxes_in := F_Stand_boxes_in, m_Stand_boxes_in := He.meth_ok (c.fact 17 (f := .meth "Stand" "boxes_in") rfl), fd_Stand_boxes := fd_Stand_boxes, F_Stand_boxes := F_Stand_boxes, m_Stand_boxes := He.meth_ok (c.fact 18 (f := .meth "Stand" "boxes") rfl), fd_House_all_boxes := fd_House_all_boxes, F_House_all_boxes := F_House_all_boxes, m_House_all_boxes := He.meth_ok (c.fact 19 (f := .meth "House" "all_boxes") rfl), fd_House_boxes := fd_House_boxes, F_House_boxes := F_House_boxes, m_House_boxes := He.meth_ok (c.fact 20 (f := .meth "House" "boxes") rfl), fd_shape_by := fd_shape_by, F_shape_by := F_shape_by, g_shape_by := He.glo_ok X G (c.fact 21 (f := .glo "shape_by") rfl), fd_greatest := fd_greatest, F_greatest := F_greatest, g_greatest := He.glo_ok X G (c.fact 22 (f := .glo "greatest") rfl), fd_House_worst := fd_House_worst, F_House_worst := F_House_worst, m_House_worst := He.meth_ok (c.fact 23 (f := .meth "House" "worst") rfl), fd_lies_in := fd_lies_in, F_lies_in := F_lies_in, g_lies_in := He.glo_ok X G (c.fact 24 (f := .glo "lies_in") rfl), fd_House_under := fd_House_under, F_House_under := F_House_under, m_House_under := He.meth_ok (c.fact 25 (f := .meth "House" "under") rfl), fd_lines_of := fd_lines_of, F_lines_of := F_lines_of, g_lines_of := He.glo_ok X G (c.fact 26 (f := .glo "lines_of") rfl), fd_drawn := fd_drawn, F_drawn := F_drawn, g_drawn := He.glo_ok X G (c.fact 27 (f := .glo "drawn") rfl), fd_House_squares := fd_House_squares, F_House_squares := F_House_squares, m_House_squares := He.meth_ok (c.fact 28 (f := .meth "House" "squares") rfl), fd_House___repr__ := fd_House___repr__, F_House___repr__ := F_House___repr__, m_House___repr__ := He.meth_ok (c.fact 29 (f := .meth "House" "__repr__") rfl), fd_law_get := fd_law_get, F_law_get := F_law_get, g_law_get := He.glo_ok X G (c.fact 30 (f := .glo "_law_get") rfl), fd_law_pick := fd_law_pick, F_law_pick := F_law_pick, g_law_pick := He.glo_ok X G (c.fact 31 (f := .glo "_law_pick") rfl), fd_law_all_names := fd_law_all_names, F_law_all_names := F_law_all_names, g_law_all_names := He.glo_ok X G (c.fact 32 (f := .glo "_law_all_names") rfl), fd_law_order := fd_law_order, F_law_order := F_law_order, g_law_order := He.glo_ok X G (c.fact 33 (f := .glo "_law_order") rfl), fd_law_inside := fd_law_inside, F_law_inside := F_law_inside, g_law_inside := He.glo_ok X G (c.fact 34 (f := .glo "_law_inside") rfl), fd_law_weigh := fd_law_weigh, F_law_weigh := F_law_weigh, g_law_weigh := He.glo_ok X G (c.fact 35 (f := .glo "_law_weigh") rfl), fd_law_boxes_in := fd_law_boxes_in, F_law_boxes_in := F_law_boxes_in, g_law_boxes_in := He.glo_ok X G (c.fact 36 (f := .glo "_law_boxes_in") rfl), fd_law_boxes := fd_law_boxes, F_law_boxes := F_law_boxes, g_law_boxes := He.glo_ok X G (c.fact 37 (f := .glo "_law_boxes") rfl), fd_law_same := fd_law_same, F_law_same := F_law_same, g_law_same := He.glo_ok X G (c.fact 38 (f := .glo "_law_same") rfl), fd_House___len__ := fd_House___len__, F_House___len__ := F_House___len__, m_House___len__ := He.meth_ok (c.fact 39 (f := .meth "House" "__len__") rfl), fd_House_names := fd_House_names, F_House_names := F_House_names, m_House_names := He.meth_ok (c.fact 40 (f := .meth "House" "names") rfl), fd_House_size := fd_House_size, F_House_size := F_House_size, m_House_size := He.meth_ok (c.fact 41 (f := .meth "House" "size") rfl), fd_House_bound := fd_House_bound, F_House_bound := F_House_bound, m_House_bound := He.meth_ok (c.fact 42 (f := .meth "House" "bound") rfl), fd_Stand_known := fd_Stand_known, F_Stand_known := F_Stand_known, m_Stand_known := He.meth_ok (c.fact 43 (f := .meth "Stand" "known") rfl), fd_need_known := fd_need_known, F_need_known := F_need_known, g_need_known := He.glo_ok X G (c.fact 44 (f := .glo "need_known") rfl), fd_House_need_any := fd_House_need_any, F_House_need_any := F_House_need_any, m_House_need_any := He.meth_ok (c.fact 45 (f := .meth "House" "need_any") rfl), fd_House_weight := fd_House_weight, F_House_weight := F_House_weight, m_House_weight := He.meth_ok (c.fact 46 (f := .meth "House" "weight") rfl), fd_Stand_is_nest := fd_Stand_is_nest, F_Stand_is_nest := F_Stand_is_nest, m_Stand_is_nest := He.meth_ok (c.fact 47 (f := .meth "Stand" "is_nest") rfl), fd_need_nest := fd_need_nest, F_need_nest := F_need_nest, g_need_nest := He.glo_ok X G (c.fact 48 (f := .glo "need_nest") rfl), fd_House_side := fd_House_side, F_House_side := F_House_side, m_House_side := He.meth_ok (c.fact 49 (f := .meth "House" "side") rfl), fd_House_children := fd_House_children, F_House_children := F_House_children, m_House_children := He.meth_ok (c.fact 50 (f := .meth "House" "children") rfl), fd_House_rows := fd_House_rows, F_House_rows := F_House_rows, m_House_rows := He.meth_ok (c.fact 51 (f := .meth "House" "rows") rfl), fd_House_box := fd_House_box, F_House_box := F_House_box, m_House_box := He.meth_ok (c.fact 52 (f := .meth "House" "box") rfl), fd_law_right := fd_law_right, F_law_right := F_law_right, g_law_right := He.glo_ok X G (c.fact 53 (f := .glo "_law_right") rfl), fd_law_gcd := fd_law_gcd, F_law_gcd := F_law_gcd, g_law_gcd := He.glo_ok X G (c.fact 54 (f := .glo "_law_gcd") rfl), fd_law_part := fd_law_part, F_law_part := F_law_part, g_law_part := He.glo_ok X G (c.fact 55 (f := .glo "_law_part") rfl), fd_law_bound := fd_law_bound, F_law_bound := F_law_bound, g_law_bound := He.glo_ok X G (c.fact 56 (f := .glo "_law_bound") rfl), fd_law_lean := fd_law_lean, F_law_lean := F_law_lean, g_law_lean := He.glo_ok X G (c.fact 57 (f := .glo "_law_lean") rfl), fd_law_ask := fd_law_ask, F_law_ask := F_law_ask, g_law_ask := He.glo_ok X G (c.fact 58 (f := .glo "_law_ask") rfl), fd_law_why := fd_law_why, F_law_why := F_law_why, g_law_why := He.glo_ok X G (c.fact 59 (f := .glo "_law_why") rfl), fd_law_whole := fd_law_whole, F_law_whole := F_law_whole, g_law_whole := He.glo_ok X G (c.fact 60 (f := .glo "_law_whole") rfl), fd_law_size_ok := fd_law_size_ok, F_law_size_ok := F_law_size_ok, g_law_size_ok := He.glo_ok X G (c.fact 61 (f := .glo "_law_size_ok") rfl), fd_law_new := fd_law_new, F_law_new := F_law_new, g_law_new := He.glo_ok X G (c.fact 62 (f := .glo "_law_new") rfl), fd_House_stand_so := fd_House_stand_so, F_House_stand_so := F_House_stand_so, m_House_stand_so := He.meth_ok (c.fact 63 (f := .meth "House" "stand_so") rfl), fd_House_undo := fd_House_undo, F_House_undo := F_House_undo, m_House_undo := He.meth_ok (c.fact 64 (f := .meth "House" "undo") rfl), fd_House_redo := fd_House_redo, F_House_redo := F_House_redo, m_House_redo := He.meth_ok (c.fact 65 (f := .meth "House" "redo") rfl), fd_law_is_part := fd_law_is_part, F_law_is_part := F_law_is_part, g_law_is_part := He.glo_ok X G (c.fact 66 (f := .glo "_law_is_part") rfl), fd_law_is_bound := fd_law_is_bound, F_law_is_bound := F_law_is_bound, g_law_is_bound := He.glo_ok X G (c.fact 67 (f := .glo "_law_is_bound") rfl), fd_law := fd_law, F_law := F_law, g_law := He.glo_ok X G (c.fact 68 (f := .glo "law") rfl), n_abs := He.free_ok X G (c.fact 69 (f := .free "abs") rfl), n_all := He.free_ok X G (c.fact 70 (f := .free "all") rfl), n_bool := He.free_ok X G (c.fact 71 (f := .free "bool") rfl), n_dict := He.free_ok X G (c.fact 72 (f := .free "dict") rfl), n_int := He.free_ok X G (c.fact 73 (f := .free "int") rfl), n_isinstance := He.free_ok X G (c.fact 74 (f := .free "isinstance") rfl), n_len := He.free_ok X G (c.fact 75 (f := .free "len") rfl), n_list := He.free_ok X G (c.fact 76 (f := .free "list") rfl), n_range := He.free_ok X G (c.fact 77 (f := .free "range") rfl), n_repr := He.free_ok X G (c.fact 78 (f := .free "repr") rfl), n_sorted := He.free_ok X G (c.fact 79 (f := .free "sorted") rfl), n_str := He.free_ok X G (c.fact 80 (f := .free "str") rfl), n_sum := He.free_ok X G (c.fact 81 (f := .free "sum") rfl), n_tuple := He.free_ok X G (c.fact 82 (f := .free "tuple") rfl), n_zip := He.free_ok X G (c.fact 83 (f := .free "zip") rfl), c_ACROSS := He.str_ok X G (c.fact 84 (f := .str "ACROSS" "across") rfl), c_DOWN := He.str_ok X G (c.fact 85 (f := .str "DOWN" "down") rfl), c_GREATEST := He.int_ok X G (c.fact 86 (f := .int "GREATEST" 1000000000000000000000000000000) rfl), c_MOST_CHILDREN := He.int_ok X G (c.fact 87 (f := .int "MOST_CHILDREN" 12) rfl), c_MOST_DEEP := He.int_ok X G (c.fact 88 (f := .int "MOST_DEEP" 4) rfl), c_MOST_NAMES := He.int_ok X G (c.fact 89 (f := .int "MOST_NAMES" 40) rfl), c_MOST_SIZE := He.int_ok X G (c.fact 90 (f := .int "MOST_SIZE" 1000) rfl), c_MOST_SQUARES := He.int_ok X G (c.fact 91 (f := .int "MOST_SQUARES" 40) rfl), c_MOST_THING := He.int_ok X G (c.fact 92 (f := .int "MOST_THING" 10000) rfl), c_MOST_WEIGHT := He.int_ok X G (c.fact 93 (f := .int "MOST_WEIGHT" 400000) rfl) }⟩ in
#guard_msgs (pass all) in open Nat
end Lw
open PySem PySem.W PySem.Calls PyProof.Rows
set_option maxRecDepth 100000 in
set_option maxHeartbeats 0 in
set_option Elab.async false in
theorem PySem.Challenge.cw_calmcuts_k45_houses_begun_holds : PySem.Challenge.rw_calmcuts_k45_houses_begun.Holds := by
  w_on
  refine Lw.pre fun said => ?_
  o_head Lw.hk2
  case hw => w_witness2
  case hc =>
    refine LamX.walk_ofTsE (l := PySem.Challenge.rw_calmcuts_k45_houses_begun) (n := 63) (k := 13) (x := "_law_script") (CX := fun _ => L2.CX0) rfl (by decide) (by kernel_rfl) ⟨rfl, by decide, by decide⟩ ?F (fun _ _ _ _ _ z => z)
    intro w mg fa h Y G hmg0
    obtain ⟨K, KX, c⟩ := Y
    have hmg : mg ("law" : PySem.Str) = some (.ref fa) := by
      have e : (HandSHeadRun.topDef (OpenLaw.row PySem.Challenge.rw_calmcuts_k45_houses_begun).prog 138).name = ("law" : PySem.Str) := by kernel_rfl
      rw [← e]
      exact hmg0
    have ef : fa = He.ga K "law" := DL.ref_inj hmg (He.glo_ok KX G (c.t.d.fact 68 (f := .glo "law") rfl))
    subst ef
    obtain ⟨fd, F⟩ := c.t.d.def_ 68 (d := Lw.dd_law) rfl
    have b := L2.FunD.bindsA (ps := ["_law_script"]) F fun _ _ _ _ _ _ us hl => match us, hl with | [_], _ => rfl
    obtain ⟨_, ex2⟩ := Bool.and_eq_true_iff.mp c.more
    obtain ⟨_, ex4⟩ := Bool.and_eq_true_iff.mp ex2
    refine ⟨K, KX, fd, Lw.tfD.map (He.cT K), (fun vs H Q _ => DL.spL K 1 (Lw.sp_law K) vs H Q fun _ _ _ => False), ?_, ?_, ?_, fun s v => b s [v] rfl, fun H a ns hl _ hT hS => DL.law_startT (ts := Lw.tbD K) (of_decide_eq_true ex4).1 (Lw.tb_at hT) hl hS, fun base _ _ TB => ?_⟩
    · intro p hp
      obtain ⟨q, hq, e⟩ := List.mem_map.mp hp
      subst e
      exact c.empty q hq
    · intro p hp
      obtain ⟨q, hq, e⟩ := List.mem_map.mp hp
      subst e
      exact c.out q hq
    · intro p hp
      obtain ⟨q, hq, e⟩ := List.mem_map.mp hp
      subst e
      exact PySem.W.codeHd_of_K KX (c.hd q hq)
    · obtain ⟨T⟩ := Lw.facts (base := base) KX G c (fun p hp => TB _ (List.mem_map.mpr ⟨p, hp, rfl⟩))
      rw [DL.fd_same F T.F_law]
      exact DL.calmF (Lw.ok_law T)
#print axioms PySem.Challenge.cw_calmcuts_k45_houses_begun_holds
