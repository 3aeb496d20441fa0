import PyProof.Rows.All
import Wide.All
import OpenK.AllK
import Wide.FinOn
import KE.KStateDown
import Lean
import KE.DataEq
import KE.DataFind
import HandS.ForMost
import HandS.Exc
import HandS.ExcOwn
import HandS.CallSlots
import HandS.Defaults
import HandS.Wide
import HandS.More
import HandS.WordsExc
import HandS.Head0
import HandS.Head1
import HandS.Head2
import HandS.HeadEnd
import HandS.HeadHook1
import HandS.HeadHook2
import PySem.Challenge.RW_calmcuts_k03_whole_parts_there_and_back
set_option Elab.async false
set_option linter.all false
set_option maxRecDepth 100000
set_option maxHeartbeats 4000000

/-! DL: a logic over plain data above the hand layer. D: data; Rep: a value stands for a datum; Cs: the objects that may change. -/
namespace DL
open PySem L2

inductive D where
  | non | bl (b : Bool) | int (i : Int) | str (x : Str)
  | tup (xs : List D) | lst (xs : List D) | dic (kvs : List (Key × D)) | dct (kvs : List (List Key × D))
  | opq (v : V)

def Ex (H H' : Hp) : Prop := ∀ a o, H a = some o → H' a = some o
theorem Ex.refl (H : Hp) : Ex H H := fun _ _ h => h
theorem Ex.trans {H H1 H2 : Hp} (a : Ex H H1) (b : Ex H1 H2) : Ex H H2 := fun x o h => b x o (a x o h)
theorem Ex.new {H : Hp} {p : Addr} {o : HO} (h : H p = none) : Ex H (upd H p o) := fun a u e => by
  rw [upd_ne (ne_of_none e h)]; exact e
theorem Ex.back {H H' : Hp} {p : Addr} (e : Ex H H') (h : H' p = none) : H p = none := by
  cases h1 : H p with
  | none => rfl
  | some o => rw [e p o h1] at h; cases h
theorem ex_rd {H H' : Hp} {a : Addr} {u : HO} (e : Ex H H') (h : Rd H a u) : Rd H' a u := by
  rcases h with h | ⟨o, h⟩
  · exact Or.inl (e a _ h)
  · exact Or.inr ⟨o, e a _ h⟩
theorem ex_l {K : PySem.W.Frag} {H H' : Hp} {a : Addr} {xs : List V} (e : Ex H H') (h : SqL K H a xs) : SqL K H' a xs := by
  rcases h with h | h
  · exact Or.inl (ex_rd e h)
  · exact Or.inr h
theorem ex_t {K : PySem.W.Frag} {H H' : Hp} {a : Addr} {xs : List V} (e : Ex H H') (h : SqT K H a xs) : SqT K H' a xs := by
  rcases h with h | h
  · exact Or.inl (ex_rd e h)
  · exact Or.inr h

mutual
inductive Rep (K : PySem.W.Frag) (G : Hp) : V → D → Prop
  | non : Rep K G .non .non
  | bl (b : Bool) : Rep K G (.bl b) (.bl b)
  | int (i : Int) : Rep K G (.int i) (.int i)
  | str (x : Str) : Rep K G (.str x) (.str x)
  | opq (v : V) : Rep K G v (.opq v)
  | lst {a : Addr} {xs : List V} {ds : List D} : SqL K G a xs → RepL K G xs ds → Rep K G (.ref a) (.lst ds)
  | tup {a : Addr} {xs : List V} {ds : List D} : SqT K G a xs → RepL K G xs ds → Rep K G (.ref a) (.tup ds)
  | dic {a : Addr} {xs : List (Key × V)} {ds : List (Key × D)} : Rd G a (.dK xs) → RepK K G xs ds → Rep K G (.ref a) (.dic ds)
  | dct {a : Addr} {xs : List (List Key × V)} {ds : List (List Key × D)} : Rd G a (.dT xs) → RepT K G xs ds → Rep K G (.ref a) (.dct ds)
inductive RepL (K : PySem.W.Frag) (G : Hp) : List V → List D → Prop
  | nil : RepL K G [] []
  | cons {v : V} {vs : List V} {d : D} {ds : List D} : Rep K G v d → RepL K G vs ds → RepL K G (v :: vs) (d :: ds)
inductive RepK (K : PySem.W.Frag) (G : Hp) : List (Key × V) → List (Key × D) → Prop
  | nil : RepK K G [] []
  | cons {k : Key} {v : V} {vs : List (Key × V)} {d : D} {ds : List (Key × D)} : Rep K G v d → RepK K G vs ds → RepK K G ((k, v) :: vs) ((k, d) :: ds)
inductive RepT (K : PySem.W.Frag) (G : Hp) : List (List Key × V) → List (List Key × D) → Prop
  | nil : RepT K G [] []
  | cons {k : List Key} {v : V} {vs : List (List Key × V)} {d : D} {ds : List (List Key × D)} : Rep K G v d → RepT K G vs ds → RepT K G ((k, v) :: vs) ((k, d) :: ds)
end
mutual
theorem Rep.mono {K : PySem.W.Frag} {G G' : Hp} (e : Ex G G') : ∀ {v : V} {d : D}, Rep K G v d → Rep K G' v d
  | _, _, .non => .non
  | _, _, .bl b => .bl b
  | _, _, .int i => .int i
  | _, _, .str x => .str x
  | _, _, .opq v => .opq v
  | _, _, .lst h r => .lst (ex_l e h) (r.mono e)
  | _, _, .tup h r => .tup (ex_t e h) (r.mono e)
  | _, _, .dic h r => .dic (ex_rd e h) (r.mono e)
  | _, _, .dct h r => .dct (ex_rd e h) (r.mono e)
theorem RepL.mono {K : PySem.W.Frag} {G G' : Hp} (e : Ex G G') : ∀ {vs : List V} {ds : List D}, RepL K G vs ds → RepL K G' vs ds
  | _, _, .nil => .nil
  | _, _, .cons h r => .cons (h.mono e) (r.mono e)
theorem RepK.mono {K : PySem.W.Frag} {G G' : Hp} (e : Ex G G') : ∀ {vs : List (Key × V)} {ds : List (Key × D)}, RepK K G vs ds → RepK K G' vs ds
  | _, _, .nil => .nil
  | _, _, .cons h r => .cons (h.mono e) (r.mono e)
theorem RepT.mono {K : PySem.W.Frag} {G G' : Hp} (e : Ex G G') : ∀ {vs : List (List Key × V)} {ds : List (List Key × D)}, RepT K G vs ds → RepT K G' vs ds
  | _, _, .nil => .nil
  | _, _, .cons h r => .cons (h.mono e) (r.mono e)
end
theorem RepL.length {K : PySem.W.Frag} {G : Hp} : ∀ {vs : List V} {ds : List D}, RepL K G vs ds → vs.length = ds.length
  | _, _, .nil => rfl
  | _, _, .cons _ r => congrArg Nat.succ r.length
theorem RepL.get {K : PySem.W.Frag} {G : Hp} : ∀ {vs : List V} {ds : List D} {i : Nat} {d : D}, RepL K G vs ds → ds[i]? = some d → ∃ v, vs[i]? = some v ∧ Rep K G v d
  | _, _, _, _, .nil, e => by simp at e
  | _, _, 0, _, .cons h _, e => by simp at e; subst e; exact ⟨_, rfl, h⟩
  | _, _, i + 1, d, .cons _ r, e => by
    obtain ⟨u, h1, h2⟩ := RepL.get (i := i) (d := d) r (by simpa using e)
    exact ⟨u, by simpa using h1, h2⟩
theorem RepL.append {K : PySem.W.Frag} {G : Hp} : ∀ {vs ws : List V} {ds es : List D}, RepL K G vs ds → RepL K G ws es → RepL K G (vs ++ ws) (ds ++ es)
  | _, _, _, _, .nil, s => s
  | _, _, _, _, .cons h r, s => .cons h (r.append s)
theorem RepL.take {K : PySem.W.Frag} {G : Hp} : ∀ {vs : List V} {ds : List D} (n : Nat), RepL K G vs ds → RepL K G (vs.take n) (ds.take n)
  | _, _, 0, _ => by simp; exact .nil
  | _, _, _ + 1, .nil => .nil
  | _, _, n + 1, .cons h r => .cons h (r.take n)
theorem RepL.drop {K : PySem.W.Frag} {G : Hp} : ∀ {vs : List V} {ds : List D} (n : Nat), RepL K G vs ds → RepL K G (vs.drop n) (ds.drop n)
  | _, _, 0, r => r
  | _, _, _ + 1, .nil => .nil
  | _, _, n + 1, .cons _ r => r.drop n
theorem RepL.set {K : PySem.W.Frag} {G : Hp} {v : V} {d : D} (h : Rep K G v d) : ∀ {vs : List V} {ds : List D} (n : Nat), RepL K G vs ds → RepL K G (vs.set n v) (ds.set n d)
  | _, _, _, .nil => .nil
  | _, _, 0, .cons _ r => .cons h r
  | _, _, n + 1, .cons q r => .cons q (r.set h n)
theorem RepL.dropLast {K : PySem.W.Frag} {G : Hp} {vs : List V} {ds : List D} (h : RepL K G vs ds) : RepL K G vs.dropLast ds.dropLast := by
  rw [List.dropLast_eq_take, List.dropLast_eq_take, h.length]; exact h.take _
theorem RepL.intsL {K : PySem.W.Frag} {G : Hp} : ∀ {vs : List V} (ns : List Int), RepL K G vs (ns.map D.int) → vs = ns.map V.int
  | _, [], .nil => rfl
  | _, n :: ns, .cons h r => by
    cases h
    rw [List.map_cons, RepL.intsL ns r]
theorem RepL.ofInts {K : PySem.W.Frag} {G : Hp} : ∀ (ns : List Int), RepL K G (ns.map V.int) (ns.map D.int)
  | [] => .nil
  | n :: ns => .cons (.int n) (RepL.ofInts ns)
theorem RepL.bls {K : PySem.W.Frag} {G : Hp} : ∀ {vs : List V} (ns : List Bool), RepL K G vs (ns.map D.bl) → vs = ns.map V.bl
  | _, [], .nil => rfl
  | _, n :: ns, .cons h r => by
    cases h
    rw [List.map_cons, RepL.bls ns r]

/-! ### the changing objects -/
inductive MO where
  | lst (ds : List D) | dic (kvs : List (Key × D)) | dct (kvs : List (List Key × D))
abbrev Cs := List (Addr × MO)
def adr (cs : Cs) : List Addr := cs.map (·.1)
def pur (F : Hp) (cs : Cs) (H : Hp) : Hp := fun b => if (F b).isSome = true ∨ b ∈ adr cs then none else H b
def MoOk (K : PySem.W.Frag) (G : Hp) : MO → HO → Prop
  | .lst ds, .lst vs => RepL K G vs ds
  | .dic ds, .dK vs => RepK K G vs ds
  | .dct ds, .dT vs => RepT K G vs ds
  | _, _ => False
theorem MoOk.mono {K : PySem.W.Frag} {G G' : Hp} (e : Ex G G') : ∀ {m : MO} {o : HO}, MoOk K G m o → MoOk K G' m o := by
  intro m o h
  cases m <;> cases o <;> first | exact h.elim | exact RepL.mono e h | exact RepK.mono e h | exact RepT.mono e h
structure Sta (K : PySem.W.Frag) (F G0 : Hp) (cs : Cs) (H : Hp) : Prop where
  fr : Ex F H
  gr : Ex G0 (pur F cs H)
  nd : (adr cs).Nodup
  ap : ∀ a ∈ adr cs, F a = none
  ow : ∀ a m, (a, m) ∈ cs → ∃ o, H a = some o ∧ MoOk K (pur F cs H) m o
section
variable {K : PySem.W.Frag} {F G G0 G1 H H1 H' : Hp} {cs cs1 cs' : Cs} {p : Addr} {o : HO} {m : MO}
theorem Sta.self (s : Sta K F G0 cs H) : Sta K F (pur F cs H) cs H := ⟨s.fr, Ex.refl _, s.nd, s.ap, s.ow⟩
theorem Sta.from_ (s : Sta K F G1 cs H) (e : Ex G0 G1) : Sta K F G0 cs H := ⟨s.fr, e.trans s.gr, s.nd, s.ap, s.ow⟩
theorem pur_none (h : H p = none) : pur F cs H p = none := by
  unfold pur
  split
  · rfl
  · exact h
theorem pur_of {b : Addr} {u : HO} (h : pur F cs H b = some u) : H b = some u ∧ F b = none ∧ b ∉ adr cs := by
  unfold pur at h
  split at h
  · cases h
  · rename_i q
    refine ⟨h, ?_, fun z => q (.inr z)⟩
    cases e : F b with
    | none => rfl
    | some x => exact absurd (Or.inl (by rw [e]; rfl)) q
theorem pur_at {b : Addr} (h1 : F b = none) (h2 : b ∉ adr cs) : pur F cs H b = H b := by
  unfold pur
  rw [if_neg]
  rintro (z | z)
  · rw [h1] at z; cases z
  · exact h2 z
/-- a new thing that never changes -/
theorem Sta.new (s : Sta K F G0 cs H) (h : H p = none) : Sta K F (pur F cs H) cs (upd H p o) ∧ pur F cs (upd H p o) p = some o := by
  have hF : F p = none := s.fr.back h
  have hc : p ∉ adr cs := fun z => by
    obtain ⟨⟨a, m⟩, hm, e⟩ := List.mem_map.mp z
    obtain ⟨u, hu, _⟩ := s.ow a m hm
    have e' : a = p := e
    rw [e', h] at hu; cases hu
  have g : Ex (pur F cs H) (pur F cs (upd H p o)) := fun b u e => by
    obtain ⟨e1, e2, e3⟩ := pur_of e
    rw [pur_at e2 e3, upd_ne (ne_of_none e1 h)]; exact e1
  refine ⟨⟨s.fr.trans (Ex.new h), g, s.nd, s.ap, fun a m hm => ?_⟩, by rw [pur_at hF hc, upd_same]⟩
  obtain ⟨u, hu, q⟩ := s.ow a m hm
  exact ⟨u, by rw [upd_ne (ne_of_none hu h)]; exact hu, q.mono g⟩
theorem Sta.notin (s : Sta K F G0 cs H) (h : H p = none) : F p = none ∧ p ∉ adr cs := by
  refine ⟨s.fr.back h, fun z => ?_⟩
  obtain ⟨⟨a, m⟩, hm, e⟩ := List.mem_map.mp z
  obtain ⟨u, hu, _⟩ := s.ow a m hm
  have e' : a = p := e
  rw [e', h] at hu; cases hu
/-- a new thing that may change -/
theorem Sta.newM (s : Sta K F G0 cs H) (h : H p = none) (q : MoOk K (pur F cs H) m o) : Sta K F (pur F cs H) ((p, m) :: cs) (upd H p o) := by
  obtain ⟨hF, hc⟩ := s.notin h
  have g : Ex (pur F cs H) (pur F ((p, m) :: cs) (upd H p o)) := fun b u e => by
    obtain ⟨e1, e2, e3⟩ := pur_of e
    have hb : b ≠ p := ne_of_none e1 h
    rw [pur_at e2 (by show b ∉ p :: adr cs; simp [hb, e3]), upd_ne hb]; exact e1
  refine ⟨s.fr.trans (Ex.new h), g, ?_, ?_, ?_⟩
  · show (p :: adr cs).Nodup
    exact List.nodup_cons.mpr ⟨hc, s.nd⟩
  · intro a ha
    rcases List.mem_cons.mp (show a ∈ p :: adr cs from ha) with e | e
    · rw [e]; exact hF
    · exact s.ap a e
  · intro a m' hm
    rcases List.mem_cons.mp hm with e | e
    · cases e
      exact ⟨o, upd_same, q.mono g⟩
    · obtain ⟨u, hu, r⟩ := s.ow a m' e
      exact ⟨u, by rw [upd_ne (ne_of_none hu h)]; exact hu, r.mono g⟩
/-- what may change is from now on data -/
theorem Sta.freeze (s : Sta K F G0 ((p, m) :: cs) H) : Sta K F G0 cs H ∧ Ex (pur F ((p, m) :: cs) H) (pur F cs H) ∧ ∃ o, pur F cs H p = some o ∧ MoOk K (pur F cs H) m o := by
  have g : Ex (pur F ((p, m) :: cs) H) (pur F cs H) := fun b u e => by
    obtain ⟨e1, e2, e3⟩ := pur_of e
    rw [pur_at e2 fun z => e3 (List.mem_cons_of_mem _ z)]; exact e1
  have nd : (p :: adr cs).Nodup := s.nd
  obtain ⟨n1, n2⟩ := List.nodup_cons.mp nd
  have hF : F p = none := s.ap p (List.mem_cons_self ..)
  refine ⟨⟨s.fr, s.gr.trans g, n2, fun a h => s.ap a (List.mem_cons_of_mem _ h), fun a m' h => ?_⟩, g, ?_⟩
  · obtain ⟨u, hu, r⟩ := s.ow a m' (List.mem_cons_of_mem _ h)
    exact ⟨u, hu, r.mono g⟩
  · obtain ⟨u, hu, r⟩ := s.ow p m (List.mem_cons_self ..)
    exact ⟨u, by rw [pur_at hF n1]; exact hu, r.mono g⟩
/-- the content of p replaced -/
def put (p : Addr) (m : MO) : Cs → Cs
  | [] => []
  | (a, x) :: r => if a = p then (a, m) :: r else (a, x) :: put p m r
def look (p : Addr) : Cs → Option MO
  | [] => none
  | (a, x) :: r => if a = p then some x else look p r
theorem adr_put (p : Addr) (m : MO) : ∀ cs : Cs, adr (put p m cs) = adr cs
  | [] => rfl
  | (a, x) :: r => by
    unfold put
    split
    · rfl
    · show a :: adr (put p m r) = a :: adr r
      rw [adr_put p m r]
theorem look_mem {p : Addr} {m : MO} : ∀ {cs : Cs}, look p cs = some m → (p, m) ∈ cs
  | [], h => by cases h
  | (a, x) :: r, h => by
    unfold look at h
    split at h
    · rename_i e
      cases h; cases e
      exact List.mem_cons_self ..
    · exact List.mem_cons_of_mem _ (look_mem h)
theorem look_put {p : Addr} {m m' : MO} : ∀ {cs : Cs}, look p cs = some m → look p (put p m' cs) = some m'
  | [], h => by cases h
  | (a, x) :: r, h => by
    unfold look at h
    unfold put
    split at h
    · rename_i e
      rw [if_pos e]
      unfold look
      rw [if_pos e]
    · rename_i e
      rw [if_neg e]
      unfold look
      rw [if_neg e]
      exact look_put h
theorem look_put_ne {p q : Addr} {m : MO} (hn : q ≠ p) : ∀ {cs : Cs}, look q (put p m cs) = look q cs
  | [] => rfl
  | (a, x) :: r => by
    unfold put
    split
    · rename_i e
      unfold look
      rw [if_neg (fun z => hn (z.symm.trans e)), if_neg (fun z => hn (z.symm.trans e))]
    · unfold look
      rw [look_put_ne hn]
theorem put_put {p : Addr} {m m' : MO} : ∀ {cs : Cs}, put p m' (put p m cs) = put p m' cs
  | [] => rfl
  | (a, x) :: r => by
    by_cases e : a = p
    · have e1 : put p m ((a, x) :: r) = (a, m) :: r := by simp [put, e]
      have e2 : put p m' ((a, x) :: r) = (a, m') :: r := by simp [put, e]
      rw [e1, e2]; simp [put, e]
    · have e1 : put p m ((a, x) :: r) = (a, x) :: put p m r := by simp [put, e]
      have e2 : put p m' ((a, x) :: r) = (a, x) :: put p m' r := by simp [put, e]
      rw [e1, e2]
      have ih := put_put (p := p) (m := m) (m' := m') (cs := r)
      simp [put, e, ih]
theorem mem_put {p a : Addr} {m x : MO} : ∀ {cs : Cs}, (adr cs).Nodup → (a, x) ∈ put p m cs → (a = p ∧ x = m) ∨ (a ≠ p ∧ (a, x) ∈ cs)
  | [], _, h => by cases h
  | (b, y) :: r, nd, h => by
    have nd' : (b :: adr r).Nodup := nd
    obtain ⟨n1, n2⟩ := List.nodup_cons.mp nd'
    unfold put at h
    split at h
    · rename_i e
      rcases List.mem_cons.mp h with q | q
      · cases q; exact .inl ⟨e, rfl⟩
      · refine .inr ⟨fun z => n1 ?_, List.mem_cons_of_mem _ q⟩
        rw [e, ← z]; exact List.mem_map.mpr ⟨(a, x), q, rfl⟩
    · rename_i e
      rcases List.mem_cons.mp h with q | q
      · cases q; exact .inr ⟨e, List.mem_cons_self ..⟩
      · rcases mem_put n2 q with z | z
        · exact .inl z
        · exact .inr ⟨z.1, List.mem_cons_of_mem _ z.2⟩
theorem Sta.put (s : Sta K F G0 cs H) (hl : look p cs = some m) {m' : MO} {o' : HO} (q : MoOk K (pur F cs H) m' o') : Sta K F (pur F cs H) (put p m' cs) (upd H p o') := by
  have hp : p ∈ adr cs := List.mem_map.mpr ⟨(p, m), look_mem hl, rfl⟩
  have hF := s.ap p hp
  have e : pur F (DL.put p m' cs) (upd H p o') = pur F cs H := by
    funext b
    unfold pur
    rw [adr_put]
    by_cases hb : b = p
    · subst hb
      rw [if_pos (.inr hp), if_pos (.inr hp)]
    · rw [upd_ne hb]
  refine ⟨fun b u h => ?_, by rw [e]; exact Ex.refl _, by rw [adr_put]; exact s.nd, by rw [adr_put]; exact s.ap, fun a x hx => ?_⟩
  · rw [upd_ne (fun z => by rw [z, hF] at h; cases h)]; exact s.fr b u h
  · rw [e]
    rcases mem_put s.nd hx with ⟨e1, e2⟩ | ⟨e1, e2⟩
    · subst e1 e2; exact ⟨o', upd_same, q⟩
    · obtain ⟨u, hu, r⟩ := s.ow a x e2
      exact ⟨u, by rw [upd_ne e1]; exact hu, r⟩
theorem Sta.look (s : Sta K F G0 cs H) (hl : DL.look p cs = some m) : ∃ o, H p = some o ∧ MoOk K (pur F cs H) m o := s.ow p m (look_mem hl)
end

/-! ### lifted readings -/
abbrev Env := List (Option D)
structure Exn where
  cls : Value
  fs : List (Str × D)
abbrev XZ := Exn → Cs → Prop
abbrev DP := D → Cs → Prop
abbrev WE := Env → Cs → DP → XZ → Prop
abbrev WT := Env → Cs → (Bool → Cs → Prop) → XZ → Prop
abbrev WA := Env → Cs → (List D → Cs → Prop) → XZ → Prop
structure Fin where
  nx : Env → Cs → Prop
  rt : D → Cs → Prop
  ex : Exn → Env → Cs → Prop := fun _ _ _ => False
  bk : Env → Cs → Prop := fun _ _ => False
  ct : Env → Cs → Prop := fun _ _ => False
abbrev WS := Fin → Env → Cs → Prop
inductive RepO (K : PySem.W.Frag) (G : Hp) : Option V → Option D → Prop
  | skip {o : Option V} : RepO K G o none
  | held {v : V} {d : D} : Rep K G v d → RepO K G (some v) (some d)
inductive RepE (K : PySem.W.Frag) (G : Hp) : St → Env → Prop
  | nil : RepE K G [] []
  | cons {v : Option V} {d : Option D} {σ : St} {ρ : Env} : RepO K G v d → RepE K G σ ρ → RepE K G (v :: σ) (d :: ρ)
section
variable {K : PySem.W.Frag} {G G' : Hp}
theorem RepO.mono (e : Ex G G') {v : Option V} {d : Option D} : RepO K G v d → RepO K G' v d
  | .skip => .skip
  | .held h => .held (h.mono e)
theorem RepE.mono (e : Ex G G') : ∀ {σ : St} {ρ : Env}, RepE K G σ ρ → RepE K G' σ ρ
  | _, _, .nil => .nil
  | _, _, .cons h r => .cons (h.mono e) (r.mono e)
theorem RepE.get : ∀ {σ : St} {ρ : Env} {i : Nat} {d : D}, RepE K G σ ρ → ρ[i]? = some (some d) → ∃ v, σ[i]? = some (some v) ∧ Rep K G v d
  | _, _, _, _, .nil, e => by simp at e
  | _, _, 0, _, .cons h _, e => by
    simp at e; subst e
    cases h with
    | held h => exact ⟨_, rfl, h⟩
  | _, _, i + 1, d, .cons _ r, e => by
    obtain ⟨u, h1, h2⟩ := RepE.get (i := i) (d := d) r (by simpa using e)
    exact ⟨u, by simpa using h1, h2⟩
theorem RepE.set {v : V} {d : D} (h : Rep K G v d) : ∀ {σ : St} {ρ : Env} (i : Nat), RepE K G σ ρ → RepE K G (σ.set i (some v)) (ρ.set i (some d))
  | _, _, _, .nil => .nil
  | _, _, 0, .cons _ r => .cons (.held h) r
  | _, _, i + 1, .cons q r => .cons q (r.set h i)
theorem RepE.start : ∀ {vs : List V} {ds : List D} (n : Nat), RepL K G vs ds → RepE K G (vs.map some ++ List.replicate n none) (ds.map some ++ List.replicate n none)
  | _, _, n, .nil => by
    induction n with
    | zero => exact .nil
    | succ n ih => exact .cons .skip ih
  | _, _, n, .cons h r => .cons (.held h) (RepE.start n r)
end
/-- an exception's dict -/
def XR (K : PySem.W.Frag) (G : Hp) (d : Option Addr) (fs : List (Str × D)) : Prop := ∃ a xs, d = some a ∧ G a = some (.xd xs) ∧ ∀ f y, fs.lookup f = some y → ∃ v, xs.lookup f = some v ∧ Rep K G v y
/-- what is due behind: by value, by exception -/
def PostE (K : PySem.W.Frag) (F G : Hp) (P : DP) (Q : VK) : Prop := ∀ H' cs' v d, Sta K F G cs' H' → Rep K (pur F cs' H') v d → P d cs' → Q v H'
def PostX (K : PySem.W.Frag) (F G : Hp) (Z : XZ) (W : Value → Option Addr → Hp → Prop) : Prop := ∀ H' cs' x d, Sta K F G cs' H' → XR K (pur F cs' H') d x.fs → Z x cs' → W x.cls d H'
theorem PostE.le {K : PySem.W.Frag} {F G G' : Hp} {P : DP} {Q : VK} (h : PostE K F G P Q) (e : Ex G G') : PostE K F G' P Q := fun H' cs' v d s r p => h H' cs' v d (s.from_ e) r p
theorem PostX.le {K : PySem.W.Frag} {F G G' : Hp} {Z : XZ} {W : Value → Option Addr → Hp → Prop} (h : PostX K F G Z W) (e : Ex G G') : PostX K F G' Z W := fun H' cs' x d s r p => h H' cs' x d (s.from_ e) r p
def lE (K : PySem.W.Frag) (W : WX) (w : WE) : TE := fun σ H Q => ∃ F cs ρ P Z, Sta K F (pur F cs H) cs H ∧ RepE K (pur F cs H) σ ρ ∧ w ρ cs P Z ∧ PostE K F (pur F cs H) P Q ∧ PostX K F (pur F cs H) Z fun c d H' => W c d σ H'
def lT (K : PySem.W.Frag) (W : WX) (w : WT) : TT := fun σ H Q => ∃ F cs ρ P Z, Sta K F (pur F cs H) cs H ∧ RepE K (pur F cs H) σ ρ ∧ w ρ cs P Z ∧ (∀ H' cs' b, Sta K F (pur F cs H) cs' H' → P b cs' → Q b H') ∧ PostX K F (pur F cs H) Z fun c d H' => W c d σ H'
def lA (K : PySem.W.Frag) (W : WX) (n : Nat) (w : WA) : TA := fun σ H Q => ∃ F cs ρ P Z, Sta K F (pur F cs H) cs H ∧ RepE K (pur F cs H) σ ρ ∧ w ρ cs P Z ∧
  (∀ H' cs' vs ds, Sta K F (pur F cs H) cs' H' → RepL K (pur F cs' H') vs ds → ds.length = n → P ds cs' → Q vs H') ∧ PostX K F (pur F cs H) Z fun c d H' => W c d σ H'
structure PostS (K : PySem.W.Frag) (F G : Hp) (W : WX) (f : Fin) (E : Ends) : Prop where
  nx : ∀ H' cs' σ' ρ', Sta K F G cs' H' → RepE K (pur F cs' H') σ' ρ' → f.nx ρ' cs' → E.nx σ' H'
  bk : ∀ H' cs' σ' ρ', Sta K F G cs' H' → RepE K (pur F cs' H') σ' ρ' → f.bk ρ' cs' → E.bk σ' H'
  ct : ∀ H' cs' σ' ρ', Sta K F G cs' H' → RepE K (pur F cs' H') σ' ρ' → f.ct ρ' cs' → E.ct σ' H'
  rt : PostE K F G f.rt E.rt
  ex : ∀ H' cs' σ' ρ' x d, Sta K F G cs' H' → RepE K (pur F cs' H') σ' ρ' → XR K (pur F cs' H') d x.fs → f.ex x ρ' cs' → W x.cls d σ' H'
theorem PostS.le {K : PySem.W.Frag} {F G G' : Hp} {W : WX} {f : Fin} {E : Ends} (h : PostS K F G W f E) (e : Ex G G') : PostS K F G' W f E :=
  ⟨fun H' cs' σ' ρ' s => h.nx H' cs' σ' ρ' (s.from_ e), fun H' cs' σ' ρ' s => h.bk H' cs' σ' ρ' (s.from_ e), fun H' cs' σ' ρ' s => h.ct H' cs' σ' ρ' (s.from_ e), h.rt.le e, fun H' cs' σ' ρ' x d s => h.ex H' cs' σ' ρ' x d (s.from_ e)⟩
def lS (K : PySem.W.Frag) (W : WX) (w : WS) : TS := fun E σ H => ∃ F cs ρ f, Sta K F (pur F cs H) cs H ∧ RepE K (pur F cs H) σ ρ ∧ w f ρ cs ∧ PostS K F (pur F cs H) W f E
abbrev DE (X : Cx) (W : WX) (e : Expr) (w : WE) : Prop := PE X e (lE X.K W w)
abbrev DT (X : Cx) (W : WX) (e : Expr) (w : WT) : Prop := PT X e (lT X.K W w)
abbrev DW (X : Cx) (W : WX) (e : Expr) (w : WT) : Prop := PW X e (lT X.K W w)
abbrev DA (X : Cx) (W : WX) (es : List Expr) (w : WA) : Prop := PA X es (lA X.K W es.length w)
abbrev DS (X : Cx) (W : WX) (st : Stmt) (w : WS) : Prop := PS X st (lS X.K W w)
abbrev DSs (X : Cx) (W : WX) (st : List Stmt) (w : WS) : Prop := PSs X st (lS X.K W w)
theorem PE.imp {X : Cx} {e : Expr} {t t' : TE} (h : PE X e t) (i : ∀ σ H Q, t' σ H Q → t σ H Q) : PE X e t' := ⟨fun pins s σ H Q I q => h.run pins s σ H Q I (i σ H Q q)⟩
theorem PT.imp {X : Cx} {e : Expr} {t t' : TT} (h : PT X e t) (i : ∀ σ H Q, t' σ H Q → t σ H Q) : PT X e t' := ⟨fun pins s σ H Q I q => h.run pins s σ H Q I (i σ H Q q)⟩
theorem PW.imp {X : Cx} {e : Expr} {t t' : TT} (h : PW X e t) (i : ∀ σ H Q, t' σ H Q → t σ H Q) : PW X e t' := ⟨fun wh pins s σ H Q I q => h.run wh pins s σ H Q I (i σ H Q q)⟩
theorem PA.imp {X : Cx} {e : List Expr} {t t' : TA} (h : PA X e t) (i : ∀ σ H Q, t' σ H Q → t σ H Q) : PA X e t' := ⟨fun pos pins s σ H Q I q => h.run pos pins s σ H Q I (i σ H Q q)⟩
theorem PS.imp {X : Cx} {st : Stmt} {t t' : TS} (h : PS X st t) (i : ∀ E σ H, t' E σ H → t E σ H) : PS X st t' := ⟨fun pins s σ H E I q => h.run pins s σ H E I (i E σ H q)⟩
theorem PSs.imp {X : Cx} {st : List Stmt} {t t' : TS} (h : PSs X st t) (i : ∀ E σ H, t' E σ H → t E σ H) : PSs X st t' := ⟨fun pins s σ H E I q => h.run pins s σ H E I (i E σ H q)⟩
end DL

namespace DL
open PySem L2
section
variable {X : Cx} {W : WX} {K : PySem.W.Frag} {σ : St} {H : Hp}
/-! ### names, constants -/
def wVar (i : Nat) : WE := fun ρ cs P _ => match ρ[i]? with
  | some (some d) => P d cs
  | _ => False
theorem d_var (i : Nat) {x : Str} {pos : Pos} (hN : X.N[i]? = some x := by rfl) (hv : Vis X.env.scope x := by first | exact Or.inl rfl | exact Or.inr (Or.inl rfl) | exact Or.inr (Or.inr rfl)) (hd : (x == ("__debug__" : Str)) = false := by decide)
    (hcd : (x == ("__classdict__" : Str)) = false := by decide) : DE X W (.Name x pos) (wVar i) :=
  PE.imp (pe_var (i := i) hN hv hd hcd) fun σ H Q ⟨F, cs, ρ, P, Z, s, re, hw, pe, px⟩ => by
    unfold wVar at hw
    split at hw
    · rename_i d e
      obtain ⟨v, h1, h2⟩ := re.get e
      exact ⟨v, h1, pe H cs v d s h2 hw⟩
    · exact hw.elim
def wC (d : D) : WE := fun _ cs P _ => P d cs
theorem d_of {e : Expr} {v : V} {d : D} (h : PE X e (tC v)) (r : ∀ G, Rep X.K G v d) : DE X W e (wC d) :=
  PE.imp h fun σ H Q ⟨F, cs, ρ, P, Z, s, re, hw, pe, px⟩ => pe H cs v d s (r _) hw
theorem d_int {i j pos} : DE X W (.Constant (.int i) j pos) (wC (.int i)) := d_of pe_int fun _ => .int _
theorem d_bl {b j pos} : DE X W (.Constant (.bool b) j pos) (wC (.bl b)) := d_of pe_bl fun _ => .bl _
theorem d_non {j pos} : DE X W (.Constant .none j pos) (wC .non) := d_of pe_non fun _ => .non
theorem d_str {x j pos} : DE X W (.Constant (.str x) j pos) (wC (.str x)) := d_of pe_str fun _ => .str _
/-! ### two values -/
abbrev DO2 := D → D → Cs → DP → Prop
def Adq (K : PySem.W.Frag) (r : R2) (o : DO2) : Prop := ∀ F cs H x y dx dy P Q, Sta K F (pur F cs H) cs H → Rep K (pur F cs H) x dx → Rep K (pur F cs H) y dy → o dx dy cs P → PostE K F (pur F cs H) P Q → r x y H Q
def wOp (o : DO2) (wa wb : WE) : WE := fun ρ cs P Z => wa ρ cs (fun x cs1 => wb ρ cs1 (fun y cs2 => o x y cs2 P) Z) Z
theorem bin_ok {r : R2} {o : DO2} {wa wb : WE} (adq : Adq K r o) {Q : VK} : lE K W (wOp o wa wb) σ H Q → tOp r (lE K W wa) (lE K W wb) σ H Q := by
  rintro ⟨F, cs, ρ, P, Z, s, re, hw, pe, px⟩
  refine ⟨F, cs, ρ, _, Z, s, re, hw, fun H1 cs1 v d s1 r1 h1 => ?_, px⟩
  refine ⟨F, cs1, ρ, _, Z, s1.self, re.mono s1.gr, h1, fun H2 cs2 v2 d2 s2 r2 h2 => ?_, px.le s1.gr⟩
  exact adq F cs2 H2 v v2 d d2 P Q s2.self (r1.mono s2.gr) r2 h2 (pe.le (s1.gr.trans s2.gr))
theorem d_op {op : Operator} {r : R2} {o : DO2} {a b : Expr} {wa wb : WE} {pos : Pos} (ho : OpR X (binaryOp op) r) (adq : Adq X.K r o) (ha : DE X W a wa) (hb : DE X W b wb) : DE X W (.BinOp a op b pos) (wOp o wa wb) :=
  PE.imp (pe_op ho ha hb) fun _ _ _ h => bin_ok adq h
theorem d_cmp {op : CmpOp} {r : R2} {o : DO2} {a b : Expr} {wa wb : WE} {pos : Pos} (ho : OpR X (compareOp op) r) (adq : Adq X.K r o) (ha : DE X W a wa) (hb : DE X W b wb) (hm : behindInMarks op b = false) : DE X W (.Compare a [op] [b] pos) (wOp o wa wb) :=
  PE.imp (pe_cmpR ho ha hb hm) fun _ _ _ h => bin_ok adq h
theorem d_ix {r : R2} {o : DO2} {a b : Expr} {wa wb : WE} {pos : Pos} (ho : IxR X r) (adq : Adq X.K r o) (ha : DE X W a wa) (hb : DE X W b wb) (hs : PlainIx b := by intro _ _; rfl) : DE X W (.Subscript a b pos) (wOp o wa wb) :=
  PE.imp (pe_ix ho ha hb hs) fun _ _ _ h => bin_ok adq h
def oI (g : Int → Int → D) : DO2 := fun x y cs P => match x, y with
  | .int i, .int j => P (g i j) cs
  | _, _ => False
def oIC (C : Int → Int → Prop) (g : Int → Int → D) : DO2 := fun x y cs P => match x, y with
  | .int i, .int j => C i j ∧ P (g i j) cs
  | _, _ => False
theorem adq_I0 {g : Int → Int → V} {g' : Int → Int → D} (h : ∀ i j G, Rep K G (g i j) (g' i j)) : Adq K (rI0 g) (oI g') := fun F cs H x y dx dy P Q s rx ry ho pe => by
  unfold oI at ho
  split at ho
  · cases rx; cases ry; exact ⟨_, _, rfl, rfl, pe H cs _ _ s (h _ _ _) ho⟩
  · exact ho.elim
theorem adq_I {C : Int → Int → Prop} {g : Int → Int → V} {g' : Int → Int → D} (h : ∀ i j G, Rep K G (g i j) (g' i j)) : Adq K (rI C g) (oIC C g') := fun F cs H x y dx dy P Q s rx ry ho pe => by
  unfold oIC at ho
  split at ho
  · cases rx; cases ry; exact ⟨_, _, rfl, rfl, ho.1, pe H cs _ _ s (h _ _ _) ho.2⟩
  · exact ho.elim
theorem op_mulX : OpR X (binaryOp .Mult) (rI IntMulOk fun i j => .int (i * j)) := opI fun _ _ _ _ _ _ _ hc q => PyProof.Rows.mul_int q hc
variable {a b : Expr} {wa wb : WE} {pos : Pos}
def oAdd : DO2 := oI fun i j => .int (i + j)
def oSub : DO2 := oI fun i j => .int (i - j)
def oMul : DO2 := oIC IntMulOk fun i j => .int (i * j)
def oDiv : DO2 := oIC CDivW fun i j => .int (i / j)
def oMod : DO2 := oIC (fun _ j => 0 < j) fun i j => .int (i % j)
def oPow : DO2 := oIC CPow fun i j => .int (i ^ j.toNat)
theorem d_add (ha : DE X W a wa) (hb : DE X W b wb) : DE X W (.BinOp a .Add b pos) (wOp oAdd wa wb) := d_op op_add (adq_I0 fun _ _ _ => .int _) ha hb
theorem d_sub (ha : DE X W a wa) (hb : DE X W b wb) : DE X W (.BinOp a .Sub b pos) (wOp oSub wa wb) := d_op op_sub (adq_I0 fun _ _ _ => .int _) ha hb
theorem d_mul (ha : DE X W a wa) (hb : DE X W b wb) : DE X W (.BinOp a .Mult b pos) (wOp oMul wa wb) := d_op op_mulX (adq_I fun _ _ _ => .int _) ha hb
theorem d_fdiv (ha : DE X W a wa) (hb : DE X W b wb) : DE X W (.BinOp a .FloorDiv b pos) (wOp oDiv wa wb) := d_op op_fdivW (adq_I fun _ _ _ => .int _) ha hb
theorem d_mod (ha : DE X W a wa) (hb : DE X W b wb) : DE X W (.BinOp a .Mod b pos) (wOp oMod wa wb) := d_op op_mod (adq_I fun _ _ _ => .int _) ha hb
theorem d_pow (ha : DE X W a wa) (hb : DE X W b wb) : DE X W (.BinOp a .Pow b pos) (wOp oPow wa wb) := d_op op_pow (adq_I fun _ _ _ => .int _) ha hb
def oLt : DO2 := oI fun i j => .bl (decide (i < j))
def oLe : DO2 := oI fun i j => .bl (decide (i ≤ j))
def oGt : DO2 := oI fun i j => .bl (decide (j < i))
def oGe : DO2 := oI fun i j => .bl (decide (j ≤ i))
theorem d_lt (ha : DE X W a wa) (hb : DE X W b wb) : DE X W (.Compare a [.Lt] [b] pos) (wOp oLt wa wb) := d_cmp op_lt (adq_I0 fun _ _ _ => .bl _) ha hb (nomark _)
theorem d_le (ha : DE X W a wa) (hb : DE X W b wb) : DE X W (.Compare a [.LtE] [b] pos) (wOp oLe wa wb) := d_cmp op_le (adq_I0 fun _ _ _ => .bl _) ha hb (nomark _)
theorem d_gt (ha : DE X W a wa) (hb : DE X W b wb) : DE X W (.Compare a [.Gt] [b] pos) (wOp oGt wa wb) := d_cmp op_gt (adq_I0 fun _ _ _ => .bl _) ha hb (nomark _)
theorem d_ge (ha : DE X W a wa) (hb : DE X W b wb) : DE X W (.Compare a [.GtE] [b] pos) (wOp oGe wa wb) := d_cmp op_ge (adq_I0 fun _ _ _ => .bl _) ha hb (nomark _)
/-! ### unary minus -/
def wUn (o : D → Cs → DP → Prop) (wa : WE) : WE := fun ρ cs P Z => wa ρ cs (fun x cs1 => o x cs1 P) Z
def oNeg : D → Cs → DP → Prop := fun x cs P => match x with
  | .int i => P (.int (-i)) cs
  | _ => False
theorem oNeg_inv {x : D} {cs : Cs} {P : DP} (h : oNeg x cs P) : ∃ i, x = .int i ∧ P (.int (-i)) cs := by
  cases x <;> first | exact h.elim | exact ⟨_, rfl, h⟩
theorem d_neg (ha : DE X W a wa) : DE X W (.UnaryOp .USub a pos) (wUn oNeg wa) := PE.imp (pe_un un_neg ha) fun σ H Q ⟨F, cs, ρ, P, Z, s, re, hw, pe, px⟩ =>
  ⟨F, cs, ρ, _, Z, s, re, hw, fun H1 cs1 v d s1 r1 h1 => by
    obtain ⟨i, rfl, h⟩ := oNeg_inv h1
    cases r1
    exact ⟨_, rfl, pe H1 cs1 _ _ s1 (.int _) h⟩, px⟩
/-! ### == and != of data -/
mutual
def pyD : D → PyData
  | .bl b => .bool b
  | .int i => .int i
  | .str x => .str x
  | .tup xs => .tuple (pyL xs)
  | .lst xs => .list (pyL xs)
  | .non | .dic _ | .dct _ | .opq _ => .none
def pyL : List D → List PyData
  | [] => []
  | d :: ds => pyD d :: pyL ds
end
mutual
/-- plain data: no dict, nothing opaque, at most n levels of lists and tuples -/
def plD : Nat → D → Bool
  | n + 1, .tup xs => plL n xs
  | n + 1, .lst xs => plL n xs
  | _, .non | _, .bl _ | _, .int _ | _, .str _ => true
  | _, _ => false
def plL : Nat → List D → Bool
  | _, [] => true
  | n, d :: ds => plD n d && plL n ds
end
mutual
def eqD : D → D → Bool
  | .non, .non => true
  | .bl a, .bl b => a == b
  | .bl a, .int j => (if a then 1 else 0) == j
  | .int i, .bl b => i == (if b then 1 else 0)
  | .int i, .int j => i == j
  | .str x, .str y => x == y
  | .lst xs, .lst ys => eqL xs ys
  | .tup xs, .tup ys => eqL xs ys
  | _, _ => false
def eqL : List D → List D → Bool
  | [], [] => true
  | x :: xs, y :: ys => eqD x y && eqL xs ys
  | _, _ => false
end
mutual
theorem plD_plain : ∀ (d : D) (n : Nat), plD n d = true → (pyD d).plain = true ∧ (pyD d).depth ≤ n
  | .non, n, _ => ⟨by simp [pyD, PyData.plain], by simp [pyD, PyData.depth]⟩
  | .bl _, n, _ => ⟨by simp [pyD, PyData.plain], by simp [pyD, PyData.depth]⟩
  | .int _, n, _ => ⟨by simp [pyD, PyData.plain], by simp [pyD, PyData.depth]⟩
  | .str _, n, _ => ⟨by simp [pyD, PyData.plain], by simp [pyD, PyData.depth]⟩
  | .tup xs, 0, h => by simp [plD] at h
  | .lst xs, 0, h => by simp [plD] at h
  | .tup xs, n + 1, h => by
    have h' := plL_plain xs n (by simpa [plD] using h)
    simp only [pyD, PyData.plain, PyData.depth]
    exact ⟨h'.1, Nat.succ_le_succ h'.2⟩
  | .lst xs, n + 1, h => by
    have h' := plL_plain xs n (by simpa [plD] using h)
    simp only [pyD, PyData.plain, PyData.depth]
    exact ⟨h'.1, Nat.succ_le_succ h'.2⟩
  | .dic _, n, h => by cases n <;> simp [plD] at h
  | .dct _, n, h => by cases n <;> simp [plD] at h
  | .opq _, n, h => by cases n <;> simp [plD] at h
theorem plL_plain : ∀ (ds : List D) (n : Nat), plL n ds = true → PyData.plainAll (pyL ds) = true ∧ PyData.depthAll (pyL ds) ≤ n
  | [], n, _ => ⟨by simp [pyL, PyData.plainAll], by simp [pyL, PyData.depthAll]⟩
  | d :: ds, n, h => by
    simp only [plL, Bool.and_eq_true] at h
    have h1 := plD_plain d n h.1
    have h2 := plL_plain ds n h.2
    simp only [pyL, PyData.plainAll, PyData.depthAll, Bool.and_eq_true]
    exact ⟨⟨h1.1, h2.1⟩, Nat.max_le.mpr ⟨h1.2, h2.2⟩⟩
end
mutual
theorem eqD_eqv : ∀ (d e : D) (n m : Nat), plD n d = true → plD m e = true → PyData.eqv (pyD d) (pyD e) = eqD d e := by
  intro d e n m hd he
  cases d <;> cases e <;> first
    | (simp [pyD, PyData.eqv, eqD]; done)
    | (cases n <;> simp [plD] at hd; done)
    | (cases m <;> simp [plD] at he; done)
    | (cases n with
       | zero => simp [plD] at hd
       | succ n => cases m with
         | zero => simp [plD] at he
         | succ m => simp only [pyD, PyData.eqv, eqD]; exact eqL_eqv _ _ n m (by simpa [plD] using hd) (by simpa [plD] using he))
theorem eqL_eqv : ∀ (d e : List D) (n m : Nat), plL n d = true → plL m e = true → PyData.eqvAll (pyL d) (pyL e) = eqL d e
  | [], [], _, _, _, _ => by simp [pyL, PyData.eqvAll, eqL]
  | [], _ :: _, _, _, _, _ => by simp [pyL, PyData.eqvAll, eqL]
  | _ :: _, [], _, _, _, _ => by simp [pyL, PyData.eqvAll, eqL]
  | d :: ds, e :: es, n, m, hd, he => by
    simp only [plL, Bool.and_eq_true] at hd he
    simp only [pyL, PyData.eqvAll, eqL]
    rw [eqD_eqv d e n m hd.1 he.1, eqL_eqv ds es n m hd.2 he.2]
end
mutual
theorem Rep.dp {G : Hp} (e : Ex G H) : ∀ {v : V} {d : D} (n : Nat), Rep K G v d → plD n d = true → Dp K H v (pyD d)
  | _, _, n, .non, _ => .non
  | _, _, n, .bl b, _ => .bl b
  | _, _, n, .int i, _ => .int i
  | _, _, n, .str x, _ => .str x
  | _, _, n, .opq v, h => by cases n <;> simp [plD] at h
  | _, _, 0, .lst h r, p => by simp [plD] at p
  | _, _, 0, .tup h r, p => by simp [plD] at p
  | _, _, n + 1, .lst h r, p => by
    simp only [pyD]
    exact .lst (ex_l e h) (RepL.dp e n r (by simpa [plD] using p))
  | _, _, n + 1, .tup h r, p => by
    simp only [pyD]
    exact .tup (ex_t e h) (RepL.dp e n r (by simpa [plD] using p))
  | _, _, n, .dic _ _, h => by cases n <;> simp [plD] at h
  | _, _, n, .dct _ _, h => by cases n <;> simp [plD] at h
theorem RepL.dp {G : Hp} (e : Ex G H) : ∀ {v : List V} {d : List D} (n : Nat), RepL K G v d → plL n d = true → DpAll K H v (pyL d)
  | _, _, _, .nil, _ => by simp only [pyL]; exact .nil
  | _, _, n, .cons h r, p => by
    simp only [plL, Bool.and_eq_true] at p
    simp only [pyL]
    exact .cons (Rep.dp e n h p.1) (RepL.dp e n r p.2)
end
theorem pur_le {F : Hp} {cs : Cs} : Ex (pur F cs H) H := fun _ _ h => (pur_of h).1
/-- x == y of plain data -/
def oEq : DO2 := fun x y cs P => plD 20 x = true ∧ plD 20 y = true ∧ P (.bl (eqD x y)) cs
def oNe : DO2 := fun x y cs P => plD 20 x = true ∧ plD 20 y = true ∧ P (.bl (!eqD x y)) cs
def rEqP (K : PySem.W.Frag) : R2 := fun x y H Q => ∃ d e, Dp K H x d ∧ Dp K H y e ∧ d.plain = true ∧ e.plain = true ∧ d.depth ≤ 64 ∧ Q (.bl (PyData.eqv d e)) H
def rNeP (K : PySem.W.Frag) : R2 := fun x y H Q => ∃ d e, Dp K H x d ∧ Dp K H y e ∧ d.plain = true ∧ e.plain = true ∧ d.depth ≤ 64 ∧ Q (.bl (!PyData.eqv d e)) H
theorem room_plain {A : Around} {da db : PyData} (h : da.depth ≤ 64) (hu : A.units + 64 < cLine) : A.units + min da.depth db.depth < cLine := by
  have h2 : min da.depth db.depth ≤ da.depth := Nat.min_le_left _ _
  omega
theorem op_eqP (hu : X.A.units + 64 < cLine) : OpR X (compareOp .Eq) (rEqP X.K) := by
  intro pins s σ H x y v u Q I rx ry h
  obtain ⟨d, e, hd, he, p1, p2, p3, q⟩ := h
  obtain ⟨as, r1⟩ := Dp.reads I d x v hd rx
  obtain ⟨bs, r2⟩ := Dp.reads I e y u he ry
  exact PySem.SeqAt.eq_plain r1 r2 p1 p2 (room_plain p3 hu) ⟨.bl _, H, I, rfl, q⟩
theorem op_neP (hu : X.A.units + 64 < cLine) : OpR X (compareOp .NotEq) (rNeP X.K) := by
  intro pins s σ H x y v u Q I rx ry h
  obtain ⟨d, e, hd, he, p1, p2, p3, q⟩ := h
  obtain ⟨as, r1⟩ := Dp.reads I d x v hd rx
  obtain ⟨bs, r2⟩ := Dp.reads I e y u he ry
  exact PySem.SeqAt.ne_plain r1 r2 p1 p2 (room_plain p3 hu) ⟨.bl _, H, I, rfl, q⟩
theorem adq_eq : Adq K (rEqP K) oEq := fun F cs H x y dx dy P Q s rx ry ho pe => by
  obtain ⟨p1, p2, h⟩ := ho
  have a1 := plD_plain dx 20 p1
  have a2 := plD_plain dy 20 p2
  refine ⟨_, _, Rep.dp pur_le 20 rx p1, Rep.dp pur_le 20 ry p2, a1.1, a2.1, Nat.le_trans a1.2 (by decide), ?_⟩
  rw [eqD_eqv dx dy 20 20 p1 p2]
  exact pe H cs _ _ s (.bl _) h
theorem adq_ne : Adq K (rNeP K) oNe := fun F cs H x y dx dy P Q s rx ry ho pe => by
  obtain ⟨p1, p2, h⟩ := ho
  have a1 := plD_plain dx 20 p1
  have a2 := plD_plain dy 20 p2
  refine ⟨_, _, Rep.dp pur_le 20 rx p1, Rep.dp pur_le 20 ry p2, a1.1, a2.1, Nat.le_trans a1.2 (by decide), ?_⟩
  rw [eqD_eqv dx dy 20 20 p1 p2]
  exact pe H cs _ _ s (.bl _) h
theorem d_eq (hu : X.A.units + 64 < cLine) (ha : DE X W a wa) (hb : DE X W b wb) : DE X W (.Compare a [.Eq] [b] pos) (wOp oEq wa wb) := d_cmp (op_eqP hu) adq_eq ha hb (nomark _)
theorem d_ne (hu : X.A.units + 64 < cLine) (ha : DE X W a wa) (hb : DE X W b wb) : DE X W (.Compare a [.NotEq] [b] pos) (wOp oNe wa wb) := d_cmp (op_neP hu) adq_ne ha hb (nomark _)
/-! ### subscripts -/
def atD (xs : List D) (i : Int) : Option D := atI xs i
def oIx : DO2 := fun x y cs P => match x, y with
  | .tup xs, .int i => (match atD xs i with
    | some d => P d cs
    | none => False)
  | .lst xs, .int i => (match atD xs i with
    | some d => P d cs
    | none => False)
  | _, _ => False
theorem RepL.atI {G : Hp} {vs : List V} {ds : List D} {i : Int} {d : D} (r : RepL K G vs ds) (h : atI ds i = some d) : ∃ v, atI vs i = some v ∧ Rep K G v d := by
  unfold L2.atI at h ⊢
  rw [r.length]
  cases e : ixN ds.length i with
  | none => rw [e] at h; cases h
  | some j =>
    rw [e] at h
    exact r.get h
theorem adq_ix : Adq K (rIx K) oIx := fun F cs H x y dx dy P Q s rx ry ho pe => by
  unfold oIx at ho
  split at ho
  · rename_i xs i
    cases ry
    cases rx with
    | tup h r =>
      split at ho
      · rename_i d e
        obtain ⟨v, e1, e2⟩ := r.atI e
        exact .inr (.inl ⟨_, _, _, v, rfl, rfl, ex_t pur_le h, e1, pe H cs _ _ s e2 ho⟩)
      · exact ho.elim
  · rename_i xs i
    cases ry
    cases rx with
    | lst h r =>
      split at ho
      · rename_i d e
        obtain ⟨v, e1, e2⟩ := r.atI e
        exact .inl ⟨_, _, _, v, rfl, rfl, ex_l pur_le h, e1, pe H cs _ _ s e2 ho⟩
      · exact ho.elim
  · exact ho.elim
theorem d_sub_ix (ha : DE X W a wa) (hb : DE X W b wb) (hs : PlainIx b := by intro _ _; rfl) : DE X W (.Subscript a b pos) (wOp oIx wa wb) := d_ix ix_seq adq_ix ha hb hs
end
end DL
namespace DL
open PySem L2
section
variable {X : Cx} {W : WX} {K : PySem.W.Frag} {σ : St} {H : Hp} {a b c : Expr} {wa wb wc : WE} {pos : Pos}
/-! ### tests -/
def wTest (wa : WE) : WT := fun ρ cs P Z => wa ρ cs (fun x cs1 => match x with
  | .bl k => P k cs1
  | _ => False) Z
theorem test_inv {x : D} {cs : Cs} {P : Bool → Cs → Prop} (h : (match x with | D.bl k => P k cs | _ => False)) : ∃ k, x = .bl k ∧ P k cs := by
  cases x <;> first | exact h.elim | exact ⟨_, rfl, h⟩
theorem test_ok {W : WX} {Q : Bool → Hp → Prop} : lT K W (wTest wa) σ H Q → tTest (lE K W wa) σ H Q := by
  rintro ⟨F, cs, ρ, P, Z, s, re, hw, pe, px⟩
  refine ⟨F, cs, ρ, _, Z, s, re, hw, fun H1 cs1 v d s1 r1 h1 => ?_, px⟩
  obtain ⟨k, rfl, h⟩ := test_inv h1
  cases r1
  exact ⟨k, rfl, pe H1 cs1 k s1 h⟩
/-- a comparison as a test -/
theorem dt_cmp {op : CmpOp} {r : R2} {o : DO2} (ho : OpR X (compareOp op) r) (adq : Adq X.K r o) (ha : DE X W a wa) (hb : DE X W b wb) (hm : behindInMarks op b = false) : DT X W (.Compare a [op] [b] pos) (wTest (wOp o wa wb)) :=
  PT.imp (pt_cmpR ho ha hb hm) fun σ H Q h => by
    obtain ⟨F, cs, ρ, P, Z, s, re, hw, pe, px⟩ := h
    have h2 : lE X.K W (wOp o wa wb) σ H (fun x H' => ∃ k, x = V.bl k ∧ Q k H') := ⟨F, cs, ρ, _, Z, s, re, hw, fun H1 cs1 v d s1 r1 h1 => by
      obtain ⟨k, rfl, h⟩ := test_inv h1
      cases r1
      exact ⟨k, rfl, pe H1 cs1 k s1 h⟩, px⟩
    exact bin_ok adq h2
theorem dt_lt (ha : DE X W a wa) (hb : DE X W b wb) : DT X W (.Compare a [.Lt] [b] pos) (wTest (wOp oLt wa wb)) := dt_cmp op_lt (adq_I0 fun _ _ _ => .bl _) ha hb (nomark _)
theorem dt_le (ha : DE X W a wa) (hb : DE X W b wb) : DT X W (.Compare a [.LtE] [b] pos) (wTest (wOp oLe wa wb)) := dt_cmp op_le (adq_I0 fun _ _ _ => .bl _) ha hb (nomark _)
theorem dt_gt (ha : DE X W a wa) (hb : DE X W b wb) : DT X W (.Compare a [.Gt] [b] pos) (wTest (wOp oGt wa wb)) := dt_cmp op_gt (adq_I0 fun _ _ _ => .bl _) ha hb (nomark _)
theorem dt_ge (ha : DE X W a wa) (hb : DE X W b wb) : DT X W (.Compare a [.GtE] [b] pos) (wTest (wOp oGe wa wb)) := dt_cmp op_ge (adq_I0 fun _ _ _ => .bl _) ha hb (nomark _)
theorem dt_eq (hu : X.A.units + 64 < cLine) (ha : DE X W a wa) (hb : DE X W b wb) : DT X W (.Compare a [.Eq] [b] pos) (wTest (wOp oEq wa wb)) := dt_cmp (op_eqP hu) adq_eq ha hb (nomark _)
theorem dt_ne (hu : X.A.units + 64 < cLine) (ha : DE X W a wa) (hb : DE X W b wb) : DT X W (.Compare a [.NotEq] [b] pos) (wTest (wOp oNe wa wb)) := dt_cmp (op_neP hu) adq_ne ha hb (nomark _)
/-- an expression that gives a truth value, as a test -/
theorem dt_val {e : Expr} {w : WE} (h : DE X W e w) (he : ∀ whole, isTrue e X.env whole = (do let v ← whole; standAt e.pos; holding [v] (truthy v)) := by intro _; rfl) : DT X W e (wTest w) :=
  PT.imp (pt_val h he) fun σ H Q h => by
    obtain ⟨F, cs, ρ, P, Z, s, re, hw, pe, px⟩ := h
    refine ⟨F, cs, ρ, _, Z, s, re, hw, fun H1 cs1 v d s1 r1 h1 => ?_, px⟩
    obtain ⟨k, rfl, h⟩ := test_inv h1
    cases r1
    exact ⟨k, rfl, pe H1 cs1 k s1 h⟩
variable {ta tb : WT} {rest : List Expr}
def wAnd (ta tb : WT) : WT := fun ρ cs P Z => ta ρ cs (fun k cs1 => (k = true → tb ρ cs1 P Z) ∧ (k = false → P false cs1)) Z
def wOr (ta tb : WT) : WT := fun ρ cs P Z => ta ρ cs (fun k cs1 => (k = true → P true cs1) ∧ (k = false → tb ρ cs1 P Z)) Z
def wNot (ta : WT) : WT := fun ρ cs P Z => ta ρ cs (fun k cs1 => P (!k) cs1) Z
theorem dw_and1 (ha : DT X W a ta) : DW X W (.BoolOp .And [a] pos) ta := pw_and1 ha
theorem dw_or1 (ha : DT X W a ta) : DW X W (.BoolOp .Or [a] pos) ta := pw_or1 ha
theorem dw_and (ha : DT X W a ta) (hb : DW X W (.BoolOp .And (b :: rest) pos) tb) : DW X W (.BoolOp .And (a :: b :: rest) pos) (wAnd ta tb) :=
  PW.imp (pw_and ha hb) fun σ H Q h => by
    obtain ⟨F, cs, ρ, P, Z, s, re, hw, pe, px⟩ := h
    refine ⟨F, cs, ρ, _, Z, s, re, hw, fun H1 cs1 k s1 h1 => ?_, px⟩
    cases k with
    | true => exact iteT ⟨F, cs1, ρ, P, Z, s1.self, re.mono s1.gr, h1.1 rfl, fun H2 cs2 k s2 h2 => pe H2 cs2 k (s2.from_ s1.gr) h2, px.le s1.gr⟩
    | false => exact iteF (pe H1 cs1 false s1 (h1.2 rfl))
theorem dw_or (ha : DT X W a ta) (hb : DW X W (.BoolOp .Or (b :: rest) pos) tb) : DW X W (.BoolOp .Or (a :: b :: rest) pos) (wOr ta tb) :=
  PW.imp (pw_or ha hb) fun σ H Q h => by
    obtain ⟨F, cs, ρ, P, Z, s, re, hw, pe, px⟩ := h
    refine ⟨F, cs, ρ, _, Z, s, re, hw, fun H1 cs1 k s1 h1 => ?_, px⟩
    cases k with
    | false => exact iteF ⟨F, cs1, ρ, P, Z, s1.self, re.mono s1.gr, h1.2 rfl, fun H2 cs2 k s2 h2 => pe H2 cs2 k (s2.from_ s1.gr) h2, px.le s1.gr⟩
    | true => exact iteT (pe H1 cs1 true s1 (h1.1 rfl))
theorem dt_w {e : Expr} (h : DW X W e ta) : DT X W e ta := h.pt
theorem dt_not (ha : DT X W a ta) : DT X W (.UnaryOp .Not a pos) (wNot ta) :=
  PT.imp (pt_not ha) fun σ H Q h => by
    obtain ⟨F, cs, ρ, P, Z, s, re, hw, pe, px⟩ := h
    exact ⟨F, cs, ρ, _, Z, s, re, hw, fun H1 cs1 k s1 h1 => pe H1 cs1 _ s1 h1, px⟩
/-- as values -/
def wAndV (wa wb : WE) : WE := fun ρ cs P Z => wa ρ cs (fun x cs1 => match x with
  | .bl k => (k = true → wb ρ cs1 P Z) ∧ (k = false → P (.bl false) cs1)
  | _ => False) Z
def wOrV (wa wb : WE) : WE := fun ρ cs P Z => wa ρ cs (fun x cs1 => match x with
  | .bl k => (k = true → P (.bl true) cs1) ∧ (k = false → wb ρ cs1 P Z)
  | _ => False) Z
def wNotV (wa : WE) : WE := fun ρ cs P Z => wa ρ cs (fun x cs1 => match x with
  | .bl k => P (.bl (!k)) cs1
  | _ => False) Z
theorem d_one {op} (h : DE X W a wa) : DE X W (.BoolOp op [a] pos) wa := pe_one h
theorem d_and (ha : DE X W a wa) (hb : DE X W (.BoolOp .And (b :: rest) pos) wb) : DE X W (.BoolOp .And (a :: b :: rest) pos) (wAndV wa wb) :=
  PE.imp (pe_and ha hb) fun σ H Q h => by
    obtain ⟨F, cs, ρ, P, Z, s, re, hw, pe, px⟩ := h
    refine ⟨F, cs, ρ, _, Z, s, re, hw, fun H1 cs1 v d s1 r1 h1 => ?_, px⟩
    cases d <;> try exact h1.elim
    rename_i k
    cases r1
    cases k with
    | true => exact ⟨true, rfl, iteT ⟨F, cs1, ρ, P, Z, s1.self, re.mono s1.gr, h1.1 rfl, pe.le s1.gr, px.le s1.gr⟩⟩
    | false => exact ⟨false, rfl, iteF (pe H1 cs1 _ _ s1 (.bl _) (h1.2 rfl))⟩
theorem d_or (ha : DE X W a wa) (hb : DE X W (.BoolOp .Or (b :: rest) pos) wb) : DE X W (.BoolOp .Or (a :: b :: rest) pos) (wOrV wa wb) :=
  PE.imp (pe_or ha hb) fun σ H Q h => by
    obtain ⟨F, cs, ρ, P, Z, s, re, hw, pe, px⟩ := h
    refine ⟨F, cs, ρ, _, Z, s, re, hw, fun H1 cs1 v d s1 r1 h1 => ?_, px⟩
    cases d <;> try exact h1.elim
    rename_i k
    cases r1
    cases k with
    | true => exact ⟨true, rfl, iteT (pe H1 cs1 _ _ s1 (.bl _) (h1.1 rfl))⟩
    | false => exact ⟨false, rfl, iteF ⟨F, cs1, ρ, P, Z, s1.self, re.mono s1.gr, h1.2 rfl, pe.le s1.gr, px.le s1.gr⟩⟩
theorem d_not (ha : DE X W a wa) : DE X W (.UnaryOp .Not a pos) (wNotV wa) :=
  PE.imp (pe_not ha) fun σ H Q h => by
    obtain ⟨F, cs, ρ, P, Z, s, re, hw, pe, px⟩ := h
    refine ⟨F, cs, ρ, _, Z, s, re, hw, fun H1 cs1 v d s1 r1 h1 => ?_, px⟩
    cases d <;> try exact h1.elim
    rename_i k
    cases r1
    exact ⟨k, rfl, pe H1 cs1 _ _ s1 (.bl _) h1⟩
def wIf (t : WT) (wa wb : WE) : WE := fun ρ cs P Z => t ρ cs (fun k cs1 => (k = true → wa ρ cs1 P Z) ∧ (k = false → wb ρ cs1 P Z)) Z
theorem d_if (hc : DT X W c ta) (ha : DE X W a wa) (hb : DE X W b wb) : DE X W (.IfExp c a b pos) (wIf ta wa wb) :=
  PE.imp (pe_ifExp hc ha hb) fun σ H Q h => by
    obtain ⟨F, cs, ρ, P, Z, s, re, hw, pe, px⟩ := h
    refine ⟨F, cs, ρ, _, Z, s, re, hw, fun H1 cs1 k s1 h1 => ?_, px⟩
    cases k with
    | true => exact iteT ⟨F, cs1, ρ, P, Z, s1.self, re.mono s1.gr, h1.1 rfl, pe.le s1.gr, px.le s1.gr⟩
    | false => exact iteF ⟨F, cs1, ρ, P, Z, s1.self, re.mono s1.gr, h1.2 rfl, pe.le s1.gr, px.le s1.gr⟩
/-! ### arguments, displays -/
variable {e : Expr} {es : List Expr} {we : WE} {w : WA}
def wNil : WA := fun _ cs P _ => P [] cs
def wCons (we : WE) (w : WA) : WA := fun ρ cs P Z => we ρ cs (fun x cs1 => w ρ cs1 (fun xs cs2 => P (x :: xs) cs2) Z) Z
theorem da_nil : DA X W [] wNil := PA.imp pa_nil fun σ H Q ⟨F, cs, ρ, P, Z, s, re, hw, pe, px⟩ => pe H cs [] [] s .nil rfl hw
theorem da_cons (ha : DE X W e we) (hr : DA X W es w) (hs : starEach (e :: es) X.env = (false, eval e X.env) :: starEach es X.env := by rfl) : DA X W (e :: es) (wCons we w) :=
  PA.imp (pa_cons ha hr hs) fun σ H Q h => by
    obtain ⟨F, cs, ρ, P, Z, s, re, hw, pe, px⟩ := h
    refine ⟨F, cs, ρ, _, Z, s, re, hw, fun H1 cs1 v d s1 r1 h1 => ?_, px⟩
    refine ⟨F, cs1, ρ, _, Z, s1.self, re.mono s1.gr, h1, fun H2 cs2 vs ds s2 r2 l2 h2 => ?_, px.le s1.gr⟩
    exact pe H2 cs2 _ _ (s2.from_ s1.gr) (.cons (r1.mono s2.gr) r2) (congrArg Nat.succ l2) h2
def wTup (w : WA) : WE := fun ρ cs P Z => w ρ cs (fun ds cs1 => P (.tup ds) cs1) Z
def wLst (w : WA) : WE := fun ρ cs P Z => w ρ cs (fun ds cs1 => P (.lst ds) cs1) Z
/-- a new list that will change -/
def wLstM (w : WA) : WE := fun ρ cs P Z => w ρ cs (fun ds cs1 => ∀ p, p ∉ adr cs1 → P (.opq (.ref p)) ((p, .lst ds) :: cs1)) Z
theorem small_es {n : Nat} (h : n ≤ 1000) : n ≤ sizeLine := Nat.le_trans h (by decide)
theorem d_tup {x1} (h : DA X W es w) (hn : es.length ≤ 1000 := by decide) : DE X W (.Tuple es x1 pos) (wTup w) :=
  PE.imp (pe_tup h) fun σ H Q h => by
    obtain ⟨F, cs, ρ, P, Z, s, re, hw, pe, px⟩ := h
    refine ⟨F, cs, ρ, _, Z, s, re, hw, fun H1 cs1 vs ds s1 r1 l1 h1 => ⟨by rw [r1.length, l1]; exact small_es hn, fun p hp => ?_⟩, px⟩
    obtain ⟨s2, e2⟩ := s1.new (o := .tup vs) hp
    exact pe _ cs1 _ _ (s2.from_ s1.gr) (.tup (SqT.of e2) (r1.mono s2.gr)) h1
theorem d_lst (h : DA X W es w) (hn : es.length ≤ 1000 := by decide) : DE X W (.List es pos) (wLst w) :=
  PE.imp (pe_lst h) fun σ H Q h => by
    obtain ⟨F, cs, ρ, P, Z, s, re, hw, pe, px⟩ := h
    refine ⟨F, cs, ρ, _, Z, s, re, hw, fun H1 cs1 vs ds s1 r1 l1 h1 => ⟨by rw [r1.length, l1]; exact small_es hn, fun p hp => ?_⟩, px⟩
    obtain ⟨s2, e2⟩ := s1.new (o := .lst vs) hp
    exact pe _ cs1 _ _ (s2.from_ s1.gr) (.lst (SqL.of e2) (r1.mono s2.gr)) h1
theorem d_lstM (h : DA X W es w) (hn : es.length ≤ 1000 := by decide) : DE X W (.List es pos) (wLstM w) :=
  PE.imp (pe_lst h) fun σ H Q h => by
    obtain ⟨F, cs, ρ, P, Z, s, re, hw, pe, px⟩ := h
    refine ⟨F, cs, ρ, _, Z, s, re, hw, fun H1 cs1 vs ds s1 r1 l1 h1 => ⟨by rw [r1.length, l1]; exact small_es hn, fun p hp => ?_⟩, px⟩
    have s2 := s1.newM (m := .lst ds) (o := .lst vs) hp r1
    exact pe _ _ _ _ (s2.from_ s1.gr) (.opq _) (h1 p (s1.notin hp).2)
/-! ### calls of built-ins -/
abbrev DOn := List D → Cs → DP → Prop
def AdqN (K : PySem.W.Frag) (r : List V → Hp → VK → Prop) (o : DOn) : Prop := ∀ F cs H xs ds P Q, Sta K F (pur F cs H) cs H → RepL K (pur F cs H) xs ds → o ds cs P → PostE K F (pur F cs H) P Q → r xs H Q
def wCB (o : DOn) (w : WA) : WE := fun ρ cs P Z => w ρ cs (fun ds cs1 => o ds cs1 P) Z
theorem cb_ok {r : List V → Hp → VK → Prop} {o : DOn} {n : Nat} (adq : AdqN K r o) {Q : VK} : lE K W (wCB o w) σ H Q → tCB r (lA K W n w) σ H Q := by
  rintro ⟨F, cs, ρ, P, Z, s, re, hw, pe, px⟩
  exact ⟨F, cs, ρ, _, Z, s, re, hw, fun H1 cs1 vs ds s1 r1 l1 h1 => adq F cs1 H1 vs ds P Q s1.self r1 h1 (pe.le s1.gr), px⟩
variable {x : Str} {p : Pos} {id T : String} {r : List V → Hp → VK → Prop} {o : DOn}
theorem d_callB (hc : CallR X (.builtin id) r) (adq : AdqN X.K r o) (hg : Gl X x) (hm : X.mg x = none) (hv : bootBuiltins x = some (.builtin id)) (ha : DA X W (e :: es) w) (hn : x ≠ "__name__" := by decide) (hdb : (x == ("__debug__" : Str)) = false := by decide)
    (he : starEach (e :: es) X.env = (false, eval e X.env) :: starEach es X.env := by rfl) (hpl : (backTo pos (starEach es X.env)).any (·.1) = false := by rfl) : DE X W (.Call (.Name x p) (e :: es) [] pos) (wCB o w) :=
  PE.imp (pe_callB hc hg hm hv ha hn hdb he hpl) fun _ _ _ h => cb_ok adq h
theorem d_callTy (hc : CallR X (.type T) r) (adq : AdqN X.K r o) (hg : Gl X x) (hm : X.mg x = none) (hv : bootBuiltins x = some (.type T)) (ha : DA X W (e :: es) w) (hn : x ≠ "__name__" := by decide) (hdb : (x == ("__debug__" : Str)) = false := by decide)
    (he : starEach (e :: es) X.env = (false, eval e X.env) :: starEach es X.env := by rfl) (hpl : (backTo pos (starEach es X.env)).any (·.1) = false := by rfl) : DE X W (.Call (.Name x p) (e :: es) [] pos) (wCB o w) :=
  PE.imp (pe_callTy hc hg hm hv ha hn hdb he hpl) fun _ _ _ h => cb_ok adq h
def oAbs : DOn := fun ds cs P => match ds with
  | [.int i] => P (.int (if i < 0 then -i else i)) cs
  | _ => False
def oLen : DOn := fun ds cs P => match ds with
  | [.lst xs] => P (.int xs.length) cs
  | [.tup xs] => P (.int xs.length) cs
  | _ => False
def oList : DOn := fun ds cs P => match ds with
  | [.lst xs] => P (.lst xs) cs
  | [.tup xs] => P (.lst xs) cs
  | _ => False
theorem adq_abs : AdqN K (fun xs H Q => ∃ i, xs = [.int i] ∧ Q (.int (if i < 0 then -i else i)) H) oAbs := fun F cs H xs ds P Q s r ho pe => by
  unfold oAbs at ho
  split at ho
  · cases r with
    | cons h t => cases h; cases t; exact ⟨_, rfl, pe H cs _ _ s (.int _) ho⟩
  · exact ho.elim
theorem adq_len : AdqN K (fun xs H Q => ∃ p ys, xs = [.ref p] ∧ (SqL K H p ys ∨ SqT K H p ys) ∧ Q (.int ys.length) H) oLen := fun F cs H xs ds P Q s r ho pe => by
  unfold oLen at ho
  split at ho
  · cases r with
    | cons h t =>
      cases t
      cases h with
      | lst h r => exact ⟨_, _, rfl, .inl (ex_l pur_le h), by rw [r.length]; exact pe H cs _ _ s (.int _) ho⟩
  · cases r with
    | cons h t =>
      cases t
      cases h with
      | tup h r => exact ⟨_, _, rfl, .inr (ex_t pur_le h), by rw [r.length]; exact pe H cs _ _ s (.int _) ho⟩
  · exact ho.elim
theorem adq_list : AdqN K (fun xs H Q => ∃ p ys, xs = [.ref p] ∧ (SqL K H p ys ∨ SqT K H p ys) ∧ ∀ l, H l = none → Q (.ref l) (upd H l (.lst ys))) oList := fun F cs H xs ds P Q s r ho pe => by
  have fin : ∀ {ys : List V} {es : List D} {l : Addr}, RepL K (pur F cs H) ys es → H l = none → P (.lst es) cs → Q (.ref l) (upd H l (.lst ys)) := fun {ys es l} hr hl hp => by
    obtain ⟨s2, e2⟩ := s.new (o := .lst ys) hl
    exact pe _ cs _ _ s2 (.lst (SqL.of e2) (hr.mono s2.gr)) hp
  unfold oList at ho
  split at ho
  · cases r with
    | cons h t =>
      cases t
      cases h with
      | lst h r => exact ⟨_, _, rfl, .inl (ex_l pur_le h), fun l hl => fin r hl ho⟩
  · cases r with
    | cons h t =>
      cases t
      cases h with
      | tup h r => exact ⟨_, _, rfl, .inr (ex_t pur_le h), fun l hl => fin r hl ho⟩
  · exact ho.elim
/-! ### slices -/
abbrev WO := Env → Cs → (Option Int → Cs → Prop) → XZ → Prop
def lO (K : PySem.W.Frag) (W : WX) (w : WO) : TO := fun σ H Q => ∃ F cs ρ P Z, Sta K F (pur F cs H) cs H ∧ RepE K (pur F cs H) σ ρ ∧ w ρ cs P Z ∧ (∀ H' cs' b, Sta K F (pur F cs H) cs' H' → P b cs' → Q b H') ∧ PostX K F (pur F cs H) Z fun c d H' => W c d σ H'
abbrev DOp (X : Cx) (W : WX) (e : Option Expr) (w : WO) : Prop := PO X e (lO X.K W w)
theorem PO.imp {X : Cx} {e : Option Expr} {t t' : TO} (h : PO X e t) (i : ∀ σ H Q, t' σ H Q → t σ H Q) : PO X e t' := ⟨fun pins s σ H Q I q => h.run pins s σ H Q I (i σ H Q q)⟩
def wNoPart : WO := fun _ cs P _ => P none cs
def wPart (we : WE) : WO := fun ρ cs P Z => we ρ cs (fun x cs1 => match x with
  | .int i => P (some i) cs1
  | _ => False) Z
theorem do_none : DOp X W none wNoPart := PO.imp po_none fun σ H Q ⟨F, cs, ρ, P, Z, s, re, hw, pe, px⟩ => pe H cs none s hw
theorem do_some (h : DE X W e we) : DOp X W (some e) (wPart we) := PO.imp (po_some h) fun σ H Q h => by
  obtain ⟨F, cs, ρ, P, Z, s, re, hw, pe, px⟩ := h
  refine ⟨F, cs, ρ, _, Z, s, re, hw, fun H1 cs1 v d s1 r1 h1 => ?_, px⟩
  cases d <;> try exact h1.elim
  cases r1
  exact ⟨_, rfl, pe H1 cs1 _ s1 h1⟩
def cutD (xs : List D) (lo hi : Option Int) : List D := (xs.drop (HT.sIx xs.length 0 lo)).take (HT.sIx xs.length xs.length hi - HT.sIx xs.length 0 lo)
theorem RepL.cut {G : Hp} {vs : List V} {ds : List D} (r : RepL K G vs ds) (lo hi : Option Int) : RepL K G (cutV vs lo hi) (cutD ds lo hi) := by
  unfold cutV cutD
  rw [r.length]
  exact (r.drop _).take _
def oSlL : D → Option Int → Option Int → Cs → DP → Prop := fun x lo hi cs P => match x with
  | .lst xs => P (.lst (cutD xs lo hi)) cs
  | _ => False
def wSl (o : D → Option Int → Option Int → Cs → DP → Prop) (we : WE) (wl wh : WO) : WE := fun ρ cs P Z => we ρ cs (fun x cs1 => wl ρ cs1 (fun l cs2 => wh ρ cs2 (fun u cs3 => o x l u cs3 P) Z) Z) Z
def AdqS (K : PySem.W.Frag) (r : V → Option Int → Option Int → Hp → VK → Prop) (o : D → Option Int → Option Int → Cs → DP → Prop) : Prop := ∀ F cs H x dx lo hi P Q, Sta K F (pur F cs H) cs H → Rep K (pur F cs H) x dx → o dx lo hi cs P → PostE K F (pur F cs H) P Q → r x lo hi H Q
theorem d_slice {r : V → Option Int → Option Int → Hp → VK → Prop} {o : D → Option Int → Option Int → Cs → DP → Prop} {lo hi : Option Expr} {wl wh : WO} {p2 : Pos} (hr : SlR X r) (adq : AdqS X.K r o) (he : DE X W e we) (hl : DOp X W lo wl) (hu : DOp X W hi wh) :
    DE X W (.Subscript e (.Slice lo hi none p2) pos) (wSl o we wl wh) :=
  PE.imp (pe_slice hr he hl hu) fun σ H Q h => by
    obtain ⟨F, cs, ρ, P, Z, s, re, hw, pe, px⟩ := h
    refine ⟨F, cs, ρ, _, Z, s, re, hw, fun H1 cs1 v d s1 r1 h1 => ?_, px⟩
    refine ⟨F, cs1, ρ, _, Z, s1.self, re.mono s1.gr, h1, fun H2 cs2 l s2 h2 => ?_, px.le s1.gr⟩
    refine ⟨F, cs2, ρ, _, Z, s2.self, re.mono (s1.gr.trans s2.gr), h2, fun H3 cs3 u s3 h3 => ?_, px.le (s1.gr.trans s2.gr)⟩
    exact adq F cs3 H3 v d l u P Q s3.self (r1.mono (s2.gr.trans s3.gr)) h3 (pe.le ((s1.gr.trans s2.gr).trans s3.gr))
theorem adq_slL : AdqS K (rSlL K) oSlL := fun F cs H x dx lo hi P Q s rx ho pe => by
  unfold oSlL at ho
  split at ho
  · cases rx with
    | lst h r =>
      refine ⟨_, _, rfl, ex_l pur_le h, fun p hp => ?_⟩
      obtain ⟨s2, e2⟩ := s.new (o := .lst (cutV _ lo hi)) hp
      exact pe _ cs _ _ s2 (.lst (SqL.of e2) ((r.cut lo hi).mono s2.gr)) ho
  · exact ho.elim
end
end DL

namespace DL
open PySem L2
section
variable {X : Cx} {W : WX} {K : PySem.W.Frag} {σ : St} {H : Hp} {e c : Expr} {we : WE} {wt : WT} {pos : Pos} {st : Stmt} {rest A B : List Stmt} {u v : WS}
/-! ### blocks -/
def sNext : WS := fun f ρ cs => f.nx ρ cs
def sSeq (u v : WS) : WS := fun f ρ cs => u { f with nx := fun ρ' cs' => v f ρ' cs' } ρ cs
theorem dss_nil : DSs X W [] sNext := PSs.imp pss_nil fun E σ H ⟨F, cs, ρ, f, s, re, hw, pe⟩ => pe.nx H cs σ ρ s re hw
theorem dss_cons (h1 : DS X W st u) (h2 : DSs X W rest v) : DSs X W (st :: rest) (sSeq u v) := PSs.imp (pss_cons h1 h2) fun E σ H h => by
  obtain ⟨F, cs, ρ, f, s, re, hw, pe⟩ := h
  exact ⟨F, cs, ρ, _, s, re, hw, ⟨fun H1 cs1 σ1 ρ1 s1 re1 h1 => ⟨F, cs1, ρ1, f, s1.self, re1, h1, pe.le s1.gr⟩, pe.bk, pe.ct, pe.rt, pe.ex⟩⟩
theorem dss_one (h1 : DS X W st u) : DSs X W [st] u := PSs.imp (pss_one h1) fun E σ H h => h
def sBreak : WS := fun f ρ cs => f.bk ρ cs
def sCont : WS := fun f ρ cs => f.ct ρ cs
theorem ds_pass : DS X W (.Pass pos) sNext := PS.imp ps_pass fun E σ H ⟨F, cs, ρ, f, s, re, hw, pe⟩ => pe.nx H cs σ ρ s re hw
theorem ds_break : DS X W (.Break pos) sBreak := PS.imp ps_break fun E σ H ⟨F, cs, ρ, f, s, re, hw, pe⟩ => pe.bk H cs σ ρ s re hw
theorem ds_continue : DS X W (.Continue pos) sCont := PS.imp ps_continue fun E σ H ⟨F, cs, ρ, f, s, re, hw, pe⟩ => pe.ct H cs σ ρ s re hw
theorem PostS.px {F G : Hp} {f : Fin} {E : Ends} {ρ : Env} (pe : PostS K F G W f E) (re : RepE K G σ ρ) : PostX K F G (fun x cs => f.ex x ρ cs) fun c d H' => W c d σ H' :=
  fun H' cs' x d s r h => pe.ex H' cs' σ ρ x d s (re.mono s.gr) r h
def sDrop (we : WE) : WS := fun f ρ cs => we ρ cs (fun _ cs1 => f.nx ρ cs1) (fun x cs1 => f.ex x ρ cs1)
theorem ds_expr (he : DE X W e we) (hs : swapsWith e none pos.line X.env = pure false := by rfl) : DS X W (.Expr e pos) (sDrop we) := PS.imp (ps_expr he hs) fun E σ H h => by
  obtain ⟨F, cs, ρ, f, s, re, hw, pe⟩ := h
  exact ⟨F, cs, ρ, _, _, s, re, hw, fun H1 cs1 v d s1 r1 h1 => pe.nx H1 cs1 σ ρ s1 (re.mono s1.gr) h1, pe.px re⟩
def sRet (we : WE) : WS := fun f ρ cs => we ρ cs f.rt (fun x cs1 => f.ex x ρ cs1)
theorem ds_ret (he : DE X W e we) : DS X W (.Return (some e) pos) (sRet we) := PS.imp (ps_ret he) fun E σ H h => by
  obtain ⟨F, cs, ρ, f, s, re, hw, pe⟩ := h
  exact ⟨F, cs, ρ, _, _, s, re, hw, fun H1 cs1 v d s1 r1 h1 => pe.rt H1 cs1 v d s1 r1 h1, pe.px re⟩
def sRetN : WS := fun f _ cs => f.rt .non cs
theorem ds_retN : DS X W (.Return none pos) sRetN := PS.imp ps_retN fun E σ H ⟨F, cs, ρ, f, s, re, hw, pe⟩ => pe.rt H cs .non .non s .non hw
def sIf (wt : WT) (u v : WS) : WS := fun f ρ cs => wt ρ cs (fun k cs1 => (k = true → u f ρ cs1) ∧ (k = false → v f ρ cs1)) (fun x cs1 => f.ex x ρ cs1)
theorem ds_if (hc : DT X W c wt) (ha : DSs X W A u) (hb : DSs X W B v) : DS X W (.If c A B pos) (sIf wt u v) := PS.imp (ps_if hc ha hb) fun E σ H h => by
  obtain ⟨F, cs, ρ, f, s, re, hw, pe⟩ := h
  refine ⟨F, cs, ρ, _, _, s, re, hw, fun H1 cs1 k s1 h1 => ?_, pe.px re⟩
  cases k with
  | true => exact iteT ⟨F, cs1, ρ, f, s1.self, re.mono s1.gr, h1.1 rfl, pe.le s1.gr⟩
  | false => exact iteF ⟨F, cs1, ρ, f, s1.self, re.mono s1.gr, h1.2 rfl, pe.le s1.gr⟩
def sNever : WS := fun _ _ _ => False
theorem ds_never : DS X W st sNever := PS.imp ps_never fun E σ H ⟨F, cs, ρ, f, s, re, hw, pe⟩ => hw
/-! ### targets -/
abbrev WG := D → Env → (Env → Prop) → Prop
abbrev WGs := List D → Env → (Env → Prop) → Prop
def lG (K : PySem.W.Frag) (g : WG) : TG := fun v σ H Q => ∃ F cs ρ d k, Sta K F (pur F cs H) cs H ∧ RepE K (pur F cs H) σ ρ ∧ Rep K (pur F cs H) v d ∧ g d ρ k ∧ ∀ σ' ρ' H', Sta K F (pur F cs H) cs H' → RepE K (pur F cs H') σ' ρ' → k ρ' → Q σ' H'
def lGs (K : PySem.W.Frag) (g : WGs) : TGs := fun v σ H Q => ∃ F cs ρ d k, Sta K F (pur F cs H) cs H ∧ RepE K (pur F cs H) σ ρ ∧ RepL K (pur F cs H) v d ∧ g d ρ k ∧ ∀ σ' ρ' H', Sta K F (pur F cs H) cs H' → RepE K (pur F cs H') σ' ρ' → k ρ' → Q σ' H'
abbrev DG (X : Cx) (tg : Expr) (g : WG) : Prop := PG X tg (lG X.K g)
abbrev DGs (X : Cx) (tg : List Expr) (g : WGs) : Prop := PGs X tg (lGs X.K g)
theorem PG.imp {X : Cx} {e : Expr} {t t' : TG} (h : PG X e t) (i : ∀ v σ H Q, t' v σ H Q → t v σ H Q) : PG X e t' := ⟨fun pins s σ H v u Q I r q => h.run pins s σ H v u Q I r (i v σ H Q q)⟩
theorem PGs.imp {X : Cx} {e : List Expr} {t t' : TGs} (h : PGs X e t) (i : ∀ v σ H Q, t' v σ H Q → t v σ H Q) : PGs X e t' := ⟨fun pins s σ H v u Q I r q => h.run pins s σ H v u Q I r (i v σ H Q q)⟩
def gN (i : Nat) : WG := fun d ρ k => k (ρ.set i (some d))
theorem dg_name {i : Nat} {x : Str} (hN : X.N.Nodup) (hi : X.N[i]? = some x) (hx : Loc X.env.scope x) (hf : X.fn x = true ∨ X.env.scope.names.lookup x = some .local := by first | exact .inl rfl | exact .inr rfl | assumption) : DG X (.Name x pos) (gN i) :=
  PG.imp (pg_name hN hi hx hf) fun v σ H Q ⟨F, cs, ρ, d, k, s, re, r, hw, q⟩ => q _ _ H s (re.set r i) hw
def gNl : WGs := fun ds ρ k => match ds with
  | [] => k ρ
  | _ => False
def gCn (g : WG) (gs : WGs) : WGs := fun ds ρ k => match ds with
  | d :: r => g d ρ fun ρ' => gs r ρ' k
  | [] => False
theorem dgs_nil : DGs X [] gNl := PGs.imp pgs_nil fun v σ H Q h => by
  obtain ⟨F, cs, ρ, d, k, s, re, r, hw, q⟩ := h
  cases r with
  | nil => exact ⟨rfl, q σ ρ H s re hw⟩
  | cons _ _ => exact hw.elim
theorem dgs_cons {es : List Expr} {g : WG} {gs : WGs} (h1 : DG X e g) (h2 : DGs X es gs) (hs : (assignEach (e :: es) X.env).map (·.2) = assign e X.env :: (assignEach es X.env).map (·.2) := by rfl) : DGs X (e :: es) (gCn g gs) := PGs.imp (pgs_cons h1 h2 hs) fun v σ H Q h => by
  obtain ⟨F, cs, ρ, d, k, s, re, r, hw, q⟩ := h
  cases r with
  | nil => exact hw.elim
  | cons r1 r2 => exact ⟨_, _, rfl, F, cs, ρ, _, _, s, re, r1, hw, fun σ1 ρ1 H1 s1 re1 h1 => ⟨F, cs, ρ1, _, k, s1.self, re1, r2.mono s1.gr, h1, fun σ2 ρ2 H2 s2 re2 h2 => q σ2 ρ2 H2 (s2.from_ s1.gr) re2 h2⟩⟩
/-- (a, b, ..) = a tuple of that length -/
def gT (n : Nat) (gs : WGs) : WG := fun d ρ k => match d with
  | .tup ds => ds.length = n ∧ gs ds ρ k
  | _ => False
theorem dg_tup {es : List Expr} {kk : Nat} {gs : WGs} {n : Nat} (hc : X.calm = true) (h : DGs X es gs) (hn : (assignEach es X.env).length = n := by rfl) (hst : (assignEach es X.env).findIdx? (·.1) = none := by rfl) : DG X (.Tuple es kk pos) (gT n gs) :=
  PG.imp (pg_tup hc h hn hst) fun v σ H Q hq => by
    obtain ⟨F, cs, ρ, d, k, s, re, r, hw, q⟩ := hq
    cases d <;> try exact hw.elim
    cases r with
    | tup h r => exact ⟨_, _, rfl, ex_t pur_le h, by rw [r.length]; exact hw.1, F, cs, ρ, _, k, s, re, r, hw.2, q⟩
/-! ### assignments -/
def sAsg (we : WE) (g : WG) : WS := fun f ρ cs => we ρ cs (fun d cs1 => g d ρ fun ρ' => f.nx ρ' cs1) (fun x cs1 => f.ex x ρ cs1)
theorem asg_ok {g : WG} {E : Ends} : lS K W (sAsg we g) E σ H → tAsg (lE K W we) (lG K g) E σ H := by
  rintro ⟨F, cs, ρ, f, s, re, hw, pe⟩
  exact ⟨F, cs, ρ, _, _, s, re, hw, fun H1 cs1 v d s1 r1 h1 => ⟨F, cs1, ρ, d, _, s1.self, re.mono s1.gr, r1, h1, fun σ2 ρ2 H2 s2 re2 h2 => pe.nx H2 cs1 σ2 ρ2 (s2.from_ s1.gr) re2 h2⟩, pe.px re⟩
theorem asgN_ok {i : Nat} {E : Ends} : lS K W (sAsg we (gN i)) E σ H → tAsg (lE K W we) (gName i) E σ H := by
  rintro ⟨F, cs, ρ, f, s, re, hw, pe⟩
  exact ⟨F, cs, ρ, _, _, s, re, hw, fun H1 cs1 v d s1 r1 h1 => pe.nx H1 cs1 _ _ s1 ((re.mono s1.gr).set r1 i) h1, pe.px re⟩
theorem ds_set {i : Nat} {x : Str} {pos' : Pos} (hN : X.N.Nodup) (hi : X.N[i]? = some x) (hx : Loc X.env.scope x) (he : DE X W e we) (hs : swapsWith e (some (.Name x pos')) pos.line X.env = pure false := by rfl)
    (hf : X.fn x = true ∨ X.env.scope.names.lookup x = some .local := by first | exact .inl rfl | exact .inr rfl | assumption) : DS X W (.Assign [.Name x pos'] e pos) (sAsg we (gN i)) :=
  PS.imp (ps_set (i := i) hN hi hx he hs hf) fun _ _ _ h => asgN_ok h
theorem ds_asg {tg : Expr} {g : WG} (he : DE X W e we) (hg : DG X tg g) (hs : swapsWithSole [tg] e pos.line X.env = pure false := by rfl) (hw : swappedStores [tg] e X.env = pure none := by rfl)
    (h1 : (assignEach [tg] X.env).map (·.2) = [assign tg X.env] := by rfl) : DS X W (.Assign [tg] e pos) (sAsg we g) := PS.imp (ps_asg he hg hs hw h1) fun _ _ _ h => asg_ok h
def sPar (i j : Nat) (w : WA) : WS := fun f ρ cs => w ρ cs (fun ds cs1 => match ds with
  | [x, y] => f.nx ((ρ.set i (some x)).set j (some y)) cs1
  | _ => False) (fun x cs1 => f.ex x ρ cs1)
theorem par_inv {ds : List D} {g : D → D → Prop} (h : (match ds with | [x, y] => g x y | _ => False)) : ∃ x y, ds = [x, y] ∧ g x y := by
  match ds, h with
  | [x, y], h => exact ⟨x, y, rfl, h⟩
theorem ds_par {i j : Nat} {x y : Str} {a b : Expr} {w : WA} {px py pt : Pos} {kt k2 pt2} (hc : X.calm = true) (hN : X.N.Nodup) (hi : X.N[i]? = some x) (hj : X.N[j]? = some y) (hij : i ≠ j)
    (hx : X.env.scope.names.lookup x = some .local) (hy : X.env.scope.names.lookup y = some .local) (ha : DA X W [a, b] w)
    (hw : swappedStores [.Tuple [.Name x px, .Name y py] kt pt] (.Tuple [a, b] k2 pt2) X.env = pure (some [x, y]) := by rfl)
    (hs : swapsWithSole [.Tuple [.Name x px, .Name y py] kt pt] (.Tuple [a, b] k2 pt2) pos.line X.env = pure false := by rfl) :
    DS X W (.Assign [.Tuple [.Name x px, .Name y py] kt pt] (.Tuple [a, b] k2 pt2) pos) (sPar i j w) := PS.imp (ps_par hc hN hi hj hij hx hy ha hw hs) fun E σ H h => by
  obtain ⟨F, cs, ρ, f, s, re, hw, pe⟩ := h
  refine ⟨F, cs, ρ, _, _, s, re, hw, fun H1 cs1 vs ds s1 r1 l1 h1 => ?_, pe.px re⟩
  obtain ⟨dx, dy, rfl, h⟩ := par_inv h1
  cases r1 with
  | cons r1 r2 =>
    cases r2 with
    | cons r2 r3 =>
      cases r3
      exact ⟨_, _, rfl, pe.nx H1 cs1 _ _ s1 (((re.mono s1.gr).set r1 i).set r2 j) h⟩
/-- name op= e of ints -/
def sAug (i : Nat) (o : DO2) (we : WE) : WS := fun f ρ cs => match ρ[i]? with
  | some (some x) => we ρ cs (fun y cs1 => o x y cs1 fun z cs2 => f.nx (ρ.set i (some z)) cs2) (fun x cs1 => f.ex x ρ cs1)
  | _ => False
theorem ds_aug {i : Nat} {x : Str} {op : Operator} {ti : TIp} {o : DO2} {pos' : Pos} (hN : X.N.Nodup) (hi : X.N[i]? = some x) (hx : Loc X.env.scope x) (he : DE X W e we) (ho : PIp X op ti) (adq : Adq X.K ti o)
    (hf : X.fn x = true ∨ X.env.scope.names.lookup x = some .local := by first | exact .inl rfl | exact .inr rfl | assumption) : DS X W (.AugAssign (.Name x pos') op e pos) (sAug i o we) :=
  PS.imp (ps_aug (i := i) hN hi hx he ho hf) fun E σ H h => by
    obtain ⟨F, cs, ρ, f, s, re, hw, pe⟩ := h
    unfold sAug at hw
    split at hw
    · rename_i d e
      obtain ⟨v, h1, h2⟩ := re.get e
      refine ⟨v, h1, F, cs, ρ, _, _, s, re, hw, fun H1 cs1 y dy s1 r1 q1 => ?_, pe.px re⟩
      refine adq F cs1 H1 v y d dy _ _ s1.self (h2.mono s1.gr) r1 q1 fun H2 cs2 z dz s2 r2 q2 => ?_
      exact pe.nx H2 cs2 _ _ (s2.from_ s1.gr) ((re.mono (s1.gr.trans s2.gr)).set r2 i) q2
    · exact hw.elim
theorem ds_augAdd {i : Nat} {x : Str} {pos' : Pos} (hN : X.N.Nodup) (hi : X.N[i]? = some x) (hx : Loc X.env.scope x) (he : DE X W e we)
    (hf : X.fn x = true ∨ X.env.scope.names.lookup x = some .local := by first | exact .inl rfl | exact .inr rfl | assumption) : DS X W (.AugAssign (.Name x pos') .Add e pos) (sAug i oAdd we) :=
  ds_aug hN hi hx he ip_add (fun F cs H x y dx dy P Q s rx ry ho pe => adq_I0 (K := X.K) (g := fun i j => .int (i + j)) (fun _ _ _ => .int _) F cs H x y dx dy P Q s rx ry ho pe) hf
/-! ### while -/
/-- I: by a number that falls -/
def sWhile (wt : WT) (wb : WS) : WS := fun f ρ cs => ∃ I : Nat → Env → Cs → Prop, (∃ m, I m ρ cs) ∧ ∀ m ρ cs, I m ρ cs →
  wt ρ cs (fun k cs1 => (k = true → wb { f with nx := fun ρ' cs' => ∃ m', m' < m ∧ I m' ρ' cs', ct := fun ρ' cs' => ∃ m', m' < m ∧ I m' ρ' cs', bk := f.nx } ρ cs1) ∧ (k = false → f.nx ρ cs1)) (fun x cs1 => f.ex x ρ cs1)
theorem ds_while {body : List Stmt} {wb : WS} (hp : PassesOwn (model X.prog X.w) X.A X.env X.xe) (hc : DT X W c wt) (hb : DSs X W body wb) : DS X W (.While c body [] pos) (sWhile wt wb) := PS.imp (ps_while hp hc hb) fun E σ H h => by
  obtain ⟨F, cs, ρ, f, s, re, ⟨I, ⟨m0, i0⟩, turn⟩, pe⟩ := h
  refine ⟨fun m σ' H' => ∃ cs' ρ', Sta X.K F (pur F cs H) cs' H' ∧ RepE X.K (pur F cs' H') σ' ρ' ∧ I m ρ' cs', ⟨m0, cs, ρ, s, re, i0⟩, fun m σ1 H1 ⟨cs1, ρ1, s1, re1, i1⟩ => ?_⟩
  refine ⟨F, cs1, ρ1, _, _, s1.self, re1, turn m ρ1 cs1 i1, fun H2 cs2 k s2 h2 => ?_, (pe.le s1.gr).px re1⟩
  cases k with
  | true =>
    refine iteT ⟨fun σ' H' => ∃ m', m' < m ∧ ∃ cs' ρ', Sta X.K F (pur F cs H) cs' H' ∧ RepE X.K (pur F cs' H') σ' ρ' ∧ I m' ρ' cs', fun σ' H' ⟨m', hm, z⟩ => ⟨m', hm, z⟩, ?_⟩
    have pe2 := pe.le (s1.gr.trans s2.gr)
    exact ⟨F, cs2, ρ1, _, s2.self, re1.mono s2.gr, h2.1 rfl, ⟨fun H3 cs3 σ3 ρ3 s3 re3 ⟨m', hm, z⟩ => ⟨m', hm, cs3, ρ3, s3.from_ (s1.gr.trans s2.gr), re3, z⟩, fun H3 cs3 σ3 ρ3 s3 re3 z => pe2.nx H3 cs3 σ3 ρ3 s3 re3 z,
      fun H3 cs3 σ3 ρ3 s3 re3 ⟨m', hm, z⟩ => ⟨m', hm, cs3, ρ3, s3.from_ (s1.gr.trans s2.gr), re3, z⟩, pe2.rt, pe2.ex⟩⟩
  | false => exact iteF (pe.nx H2 cs2 σ1 ρ1 (s2.from_ s1.gr) (re1.mono s2.gr) (h2.2 rfl))
/-! ### for -/
/-- J yields xs as long as the data stand -/
structure YI (K : PySem.W.Frag) (J : It) (G : Hp) (xs : List D) : Prop where
  go : ∀ i d, xs[i]? = some d → ∀ F cs H, Sta K F G cs H → J.go i H
  yld : ∀ i d, xs[i]? = some d → ∀ F cs H x H', Sta K F G cs H → J.yld i H x H' → Sta K F (pur F cs H) cs H' ∧ Rep K (pur F cs H') x d
  stop : ∀ F cs H, Sta K F G cs H → J.stop xs.length H
abbrev WI := Env → Cs → (List D → Cs → Prop) → XZ → Prop
def lI (K : PySem.W.Frag) (W : WX) (w : WI) : TI := fun σ H R => ∃ F cs ρ P Z, Sta K F (pur F cs H) cs H ∧ RepE K (pur F cs H) σ ρ ∧ w ρ cs P Z ∧ (∀ H' cs' J xs, Sta K F (pur F cs H) cs' H' → YI K J (pur F cs' H') xs → P xs cs' → R J H') ∧ PostX K F (pur F cs H) Z fun c d H' => W c d σ H'
abbrev DI (X : Cx) (W : WX) (tg it : Expr) (w : WI) : Prop := PI X tg it (lI X.K W w)
theorem PI.imp {X : Cx} {tg e : Expr} {t t' : TI} (h : PI X tg e t) (i : ∀ σ H Q, t' σ H Q → t σ H Q) : PI X tg e t' := ⟨fun pins s σ H Q I q => h.run pins s σ H Q I (i σ H Q q)⟩
def loopW (g : WG) (wb : WS) (f : Fin) : List D → Env → Cs → Prop
  | [], ρ, cs => f.nx ρ cs
  | d :: r, ρ, cs => g d ρ fun ρ1 => wb { f with nx := fun ρ' cs' => loopW g wb f r ρ' cs', ct := fun ρ' cs' => loopW g wb f r ρ' cs', bk := f.nx } ρ1 cs
def sFor (wi : WI) (g : WG) (wb : WS) : WS := fun f ρ cs => wi ρ cs (fun xs cs1 => loopW g wb f xs ρ cs1) (fun x cs1 => f.ex x ρ cs1)
theorem drop_cons {α : Type} {xs : List α} {i : Nat} {d : α} {r : List α} (h : xs.drop i = d :: r) : xs[i]? = some d ∧ xs.drop (i + 1) = r := by
  refine ⟨?_, ?_⟩
  · have e : (xs.drop i)[0]? = some d := by rw [h] <;> rfl
    rw [List.getElem?_drop] at e
    simpa using e
  · have e : (xs.drop i).drop 1 = r := by rw [h] <;> rfl
    rw [List.drop_drop] at e
    exact e
theorem ds_for {tg iter : Expr} {body : List Stmt} {wi : WI} {g : WG} {wb : WS} (hp : PassesOwn (model X.prog X.w) X.A X.env X.xe) (hc : X.calm = true) (hi : DI X W tg iter wi) (hg : DG X tg g) (hb : DSs X W body wb)
    (hs : ∀ x, foldedSetIterable iter X.env x = pure x := by intro _; rfl) : DS X W (.For tg iter body [] pos) (sFor wi g wb) := PS.imp (ps_for hp hc hi hg hb hs) fun E σ H h => by
  obtain ⟨F, cs, ρ, f, s, re, hw, pe⟩ := h
  refine ⟨F, cs, ρ, _, _, s, re, hw, fun H1 cs1 J xs s1 yi h1 => ?_, pe.px re⟩
  refine ⟨fun i m σ' H' => i ≤ xs.length ∧ m = xs.length - i ∧ ∃ cs' ρ', Sta X.K F (pur F cs1 H1) cs' H' ∧ RepE X.K (pur F cs' H') σ' ρ' ∧ loopW g wb f (xs.drop i) ρ' cs', ⟨xs.length, Nat.zero_le _, rfl, cs1, ρ, s1.self, re.mono s1.gr, h1⟩, ?_⟩
  rintro i m σ2 H2 ⟨hi, rfl, cs2, ρ2, s2, re2, h2⟩
  cases e : xs.drop i with
  | nil =>
    have hl : xs.length ≤ i := by
      have z := congrArg List.length e
      rw [List.length_drop] at z
      have z' : xs.length - i = 0 := z
      omega
    have hie : i = xs.length := by omega
    rw [e] at h2
    refine .inl ⟨?_, pe.nx H2 cs2 σ2 ρ2 (s2.from_ s1.gr) re2 h2⟩
    rw [hie]
    exact yi.stop F cs2 H2 s2
  | cons d r =>
    obtain ⟨e1, e2⟩ := drop_cons e
    have hlt : i < xs.length := (List.getElem?_eq_some_iff.mp e1).1
    rw [e] at h2
    refine .inr ⟨yi.go i d e1 F cs2 H2 s2, fun σ' H' => ∃ cs' ρ', Sta X.K F (pur F cs1 H1) cs' H' ∧ RepE X.K (pur F cs' H') σ' ρ' ∧ loopW g wb f r ρ' cs', ?_, ?_⟩
    · rintro σ' H' ⟨cs', ρ', s', re', h'⟩
      exact ⟨xs.length - (i + 1), by omega, by omega, rfl, cs', ρ', s', re', by rw [e2]; exact h'⟩
    · intro x H3 hy
      obtain ⟨s3, r3⟩ := yi.yld i d e1 F cs2 H2 x H3 s2 hy
      have g3 := s2.gr.trans s3.gr
      have pe3 := pe.le (s1.gr.trans g3)
      refine ⟨F, cs2, ρ2, d, _, s3.self, re2.mono s3.gr, r3, h2, fun σ4 ρ4 H4 s4 re4 h4 => ?_⟩
      have g4 := g3.trans s4.gr
      have pe4 := pe.le (s1.gr.trans g4)
      exact ⟨F, cs2, ρ4, _, s4.self, re4, h4, ⟨fun H5 cs5 σ5 ρ5 s5 re5 h5 => ⟨cs5, ρ5, s5.from_ g4, re5, h5⟩, fun H5 cs5 σ5 ρ5 s5 re5 h5 => pe4.nx H5 cs5 σ5 ρ5 s5 re5 h5,
        fun H5 cs5 σ5 ρ5 s5 re5 h5 => ⟨cs5, ρ5, s5.from_ g4, re5, h5⟩, pe4.rt, pe4.ex⟩⟩
/-! ### what is walked -/
def iSeq (we : WE) : WI := fun ρ cs P Z => we ρ cs (fun d cs1 => match d with
  | .lst xs => P xs cs1
  | _ => False) Z
def iTupD (we : WE) : WI := fun ρ cs P Z => we ρ cs (fun d cs1 => match d with
  | .tup xs => P xs cs1
  | _ => False) Z
theorem yi_list {G : Hp} {a : Addr} {xs : List V} {ds : List D} (h : SqL K G a xs) (r : RepL K G xs ds) : YI K (Itl K a) G ds where
  go := fun i d e F cs H s => by
    obtain ⟨v, e1, _⟩ := r.get e
    exact ⟨xs, v, ex_l (s.gr.trans pur_le) h, e1⟩
  yld := fun i d e F cs H x H' s hy => by
    obtain ⟨e1, e2⟩ := hy
    obtain ⟨v, e3, rv⟩ := r.get e
    have e4 := e2 xs (ex_l (s.gr.trans pur_le) h)
    rw [e3] at e4
    cases e4
    subst e1
    exact ⟨s.self, rv.mono s.gr⟩
  stop := fun F cs H s => ⟨xs, ex_l (s.gr.trans pur_le) h, by rw [r.length]; exact Nat.le_refl _⟩
theorem yi_tup {G : Hp} {a : Addr} {xs : List V} {ds : List D} (h : SqT K G a xs) (r : RepL K G xs ds) : YI K (Itt K a) G ds where
  go := fun i d e F cs H s => by
    obtain ⟨v, e1, _⟩ := r.get e
    exact ⟨xs, v, ex_t (s.gr.trans pur_le) h, e1⟩
  yld := fun i d e F cs H x H' s hy => by
    obtain ⟨e1, e2⟩ := hy
    obtain ⟨v, e3, rv⟩ := r.get e
    have e4 := e2 xs (ex_t (s.gr.trans pur_le) h)
    rw [e3] at e4
    cases e4
    subst e1
    exact ⟨s.self, rv.mono s.gr⟩
  stop := fun F cs H s => ⟨xs, ex_t (s.gr.trans pur_le) h, by rw [r.length]; exact Nat.le_refl _⟩
theorem di_list {tg : Expr} (h : DE X W e we) : DI X W tg e (iSeq we) := PI.imp (pi_list h) fun σ H R hq => by
  obtain ⟨F, cs, ρ, P, Z, s, re, hw, pe, px⟩ := hq
  refine ⟨F, cs, ρ, _, Z, s, re, hw, fun H1 cs1 v d s1 r1 h1 => ?_, px⟩
  cases d <;> try exact h1.elim
  cases r1 with
  | lst h r => exact ⟨_, rfl, ⟨_, ex_l pur_le h⟩, pe H1 cs1 _ _ s1 (yi_list h r) h1⟩
theorem di_tup {tg : Expr} (h : DE X W e we) : DI X W tg e (iTupD we) := PI.imp (pi_tup h) fun σ H R hq => by
  obtain ⟨F, cs, ρ, P, Z, s, re, hw, pe, px⟩ := hq
  refine ⟨F, cs, ρ, _, Z, s, re, hw, fun H1 cs1 v d s1 r1 h1 => ?_, px⟩
  cases d <;> try exact h1.elim
  cases r1 with
  | tup h r => exact ⟨_, rfl, ⟨_, ex_t pur_le h⟩, pe H1 cs1 _ _ s1 (yi_tup h r) h1⟩
def rngD (lo : Int) (n : Nat) : List D := (List.range n).map fun (i : Nat) => D.int (lo + (i : Int))
theorem yi_range (G : Hp) (lo : Int) (n : Nat) : YI K (Itr lo n) G (rngD lo n) where
  go := fun i d e F cs H s => by
    have z := (List.getElem?_eq_some_iff.mp e).1
    have z2 : i < n := by simpa [rngD] using z
    exact z2
  yld := fun i d e F cs H x H' s hy => by
    obtain ⟨e1, e2⟩ := hy
    subst e1 e2
    obtain ⟨hi, e3⟩ := List.getElem?_eq_some_iff.mp e
    simp [rngD] at e3
    rw [← e3]
    exact ⟨s.self, .int _⟩
  stop := fun F cs H s => by
    have z : n ≤ (rngD lo n).length := by simp [rngD]
    exact z
def iRg1 (w : WA) : WI := fun ρ cs P Z => w ρ cs (fun ds cs1 => match ds with
  | [.int j] => (-(2 ^ 62) ≤ j ∧ j < 2 ^ 62) ∧ P (rngD 0 j.toNat) cs1
  | _ => False) Z
def iRg2 (w : WA) : WI := fun ρ cs P Z => w ρ cs (fun ds cs1 => match ds with
  | [.int i, .int j] => (-(2 ^ 62) ≤ i ∧ i < 2 ^ 62 ∧ -(2 ^ 62) ≤ j ∧ j < 2 ^ 62) ∧ P (rngD i (j - i).toNat) cs1
  | _ => False) Z
theorem int1_inv {ds : List D} {g : Int → Prop} (h : (match ds with | [D.int j] => g j | _ => False)) : ∃ j, ds = [.int j] ∧ g j := by
  match ds, h with
  | [D.int j], h => exact ⟨j, rfl, h⟩
theorem int2_inv {ds : List D} {g : Int → Int → Prop} (h : (match ds with | [D.int i, D.int j] => g i j | _ => False)) : ∃ i j, ds = [.int i, .int j] ∧ g i j := by
  match ds, h with
  | [D.int i, D.int j], h => exact ⟨i, j, rfl, h⟩
theorem di_range1 {tg a : Expr} {w : WA} {p : Pos} (hg : Gl X "range") (hm : X.mg "range" = none) (ha : DA X W [a] w) (hs : starEach [a] X.env = [(false, eval a X.env)] := by rfl) : DI X W tg (.Call (.Name "range" p) [a] [] pos) (iRg1 w) :=
  PI.imp (pi_range1 hg hm ha hs) fun σ H R hq => by
    obtain ⟨F, cs, ρ, P, Z, s, re, hw, pe, px⟩ := hq
    refine ⟨F, cs, ρ, _, Z, s, re, hw, fun H1 cs1 vs ds s1 r1 l1 h1 => ?_, px⟩
    obtain ⟨j, rfl, ⟨h2, h3⟩, h⟩ := int1_inv h1
    cases r1 with
    | cons r1 r2 => cases r1; cases r2; exact ⟨j, rfl, h2, h3, pe H1 cs1 _ _ s1 (yi_range _ 0 _) h⟩
theorem di_range2 {tg a b : Expr} {w : WA} {p : Pos} (hg : Gl X "range") (hm : X.mg "range" = none) (ha : DA X W [a, b] w) (hs : starEach [a, b] X.env = [(false, eval a X.env), (false, eval b X.env)] := by rfl) (hs2 : starEach [b] X.env = [(false, eval b X.env)] := by rfl) :
    DI X W tg (.Call (.Name "range" p) [a, b] [] pos) (iRg2 w) := PI.imp (pi_range2 hg hm ha hs hs2) fun σ H R hq => by
    obtain ⟨F, cs, ρ, P, Z, s, re, hw, pe, px⟩ := hq
    refine ⟨F, cs, ρ, _, Z, s, re, hw, fun H1 cs1 vs ds s1 r1 l1 h1 => ?_, px⟩
    obtain ⟨i, j, rfl, h2, h⟩ := int2_inv h1
    cases r1 with
    | cons r1 r2 =>
      cases r2 with
      | cons r2 r3 => cases r1; cases r2; cases r3; exact ⟨i, j, rfl, h2, pe H1 cs1 _ _ s1 (yi_range _ i _) h⟩
end
end DL

namespace DL
open PySem PySem.Spec PyProof.Rows L2
/-! ### promises over data -/
abbrev DSp := List D → Cs → DP → XZ → Prop
def spL (K : PySem.W.Frag) (n : Nat) (sp : DSp) : Sp := fun vs H Q E => ∃ F cs ds P Z, Sta K F (pur F cs H) cs H ∧ RepL K (pur F cs H) vs ds ∧ ds.length = n ∧ sp ds cs P Z ∧ PostE K F (pur F cs H) P Q ∧ PostX K F (pur F cs H) Z E
theorem spL_len {K : PySem.W.Frag} {n : Nat} {sp : DSp} : ∀ vs H Q E, spL K n sp vs H Q E → vs.length = n := fun vs H Q E ⟨F, cs, ds, P, Z, s, r, l, _⟩ => r.length.trans l
section
variable {X : Cx} {W : WX} {K : PySem.W.Frag} {σ : L2.St} {H : Hp} {CX : CXT} {k n : Nat} {f : Addr} {fd : FuncData} {ps : List Str} {sp : DSp} {x : Str} {p pos : Pos} {e : Expr} {es : List Expr} {w : WA} {dvs : List V} {dds : List D} {ds : List Value}
def wCall (sp : DSp) (dds : List D) (w : WA) : WE := fun ρ cs P Z => w ρ cs (fun ds cs1 => sp (ds ++ dds) cs1 P Z) Z
theorem RepL.const {dvs : List V} {dds : List D} (h : ∀ G, RepL K G dvs dds) {G : Hp} {vs : List V} {ds : List D} (r : RepL K G vs ds) : RepL K G (vs ++ dvs) (ds ++ dds) := r.append (h G)
theorem call_ok {m : Nat} (hd : ∀ G, RepL K G dvs dds) (hn : m + dds.length = n) {Q : VK} : lE K W (wCall sp dds w) σ H Q → tCallSD (spL K n sp) dvs (L2.WE W) (lA K W m w) σ H Q := by
  rintro ⟨F, cs, ρ, P, Z, s, re, hw, pe, px⟩
  refine ⟨F, cs, ρ, _, Z, s, re, hw, fun H1 cs1 vs ds s1 r1 l1 h1 => ?_, px⟩
  exact ⟨F, cs1, _, P, Z, s1.self, RepL.const hd r1, by rw [List.length_append, l1]; exact hn, h1, pe.le s1.gr, px.le s1.gr⟩
/-- f(e, ..), the defaults dds behind -/
theorem d_call (F : FnOk X.prog X.w X.K X.mg X.base (L2.CX X.prog X.w) k f fd ps (spL X.K n sp)) (hr : Room k X.A) (hg : Gl X x) (hm : X.mg x = some (.ref f)) (hk : PySem.W.keepIn X.K (.ref f) = true) (hb : Binds X.K fd ps ds) (hd : Vals dvs ds) (hdd : ∀ G, RepL X.K G dvs dds) (tk : Takes X W)
    (ha : DA X W (e :: es) w) (hn : (e :: es).length + dds.length = n := by rfl) (hdb : (x == ("__debug__" : Str)) = false := by decide) (he : starEach (e :: es) X.env = (false, eval e X.env) :: starEach es X.env := by rfl) (hpl : (backTo pos (starEach es X.env)).any (·.1) = false := by rfl) :
    DE X W (.Call (.Name x p) (e :: es) [] pos) (wCall sp dds w) :=
  PE.imp (pe_callSD (E := L2.WE W) F hr hg hm hk hb hd (fun σ => passAt tk σ) ha hdb he hpl) fun _ _ _ h => call_ok hdd hn h
theorem d_callN (F : FnOk X.prog X.w X.K X.mg X.base (L2.CX X.prog X.w) k f fd ps (spL X.K n sp)) (hr : Room k X.A) (hg : Gl X x) (hm : X.mg x = some (.ref f)) (hk : PySem.W.keepIn X.K (.ref f) = true) (hb : Binds X.K fd ps []) (tk : Takes X W)
    (ha : DA X W (e :: es) w) (hn : (e :: es).length = n := by rfl) (hdb : (x == ("__debug__" : Str)) = false := by decide) (he : starEach (e :: es) X.env = (false, eval e X.env) :: starEach es X.env := by rfl) (hpl : (backTo pos (starEach es X.env)).any (·.1) = false := by rfl) :
    DE X W (.Call (.Name x p) (e :: es) [] pos) (wCall sp [] w) := d_call (dds := []) F hr hg hm hk hb .nil (fun _ => .nil) tk ha hn hdb he hpl
end
/-! ### a def keeps its promise -/
section
variable {P : Program} {w : World} {K : PySem.W.Frag} {mg : Str → Option Value} {base : Heap} {x qual : Str} {params : Arguments} {body : List Stmt} {scope : Scope} {dvs : List V} {kws : List (Str × V)} {f : Addr} {fd : FuncData}
def startD (N : List Str) (ds : List D) : Env := ds.map some ++ List.replicate (N.length - ds.length) none
/-- the end of a body -/
abbrev finD (P : DP) (Z : XZ) : Fin := { nx := fun _ cs => P .non cs, rt := P, ex := fun x _ cs => Z x cs }
abbrev cxD (P : Program) (w : World) (K : PySem.W.Frag) (mg : Str → Option Value) (base : Heap) (N : List Str) (qual : Str) (scope : Scope) (f : Addr) (cdv : Value) (A : Around) (outer : List PySem.Env) (s : Shared) (H : Hp) (E : XK) : Cx :=
  cxOf (L2.CX P w) P w K mg base N qual scope f cdv A outer s H E
theorem ok_def {N ps : List Str} {k : Nat} {sp : DSp} (F : FunD K x qual params body scope dvs kws f fd) (S : FnScope N ps scope) {u : WS}
    (hb : ∀ (cdv : Value) (A : Around) (outer : List PySem.Env) (s : Shared) (H : Hp) (E : XK), Room k (A.deeper (envOfC qual scope s.heap.objs.size f cdv)) → DSs (cxD P w K mg base N qual scope f cdv A outer s H E) (fun cls d _ H => E cls d H) body u)
    (hsp : ∀ ds cs Q Z, sp ds cs Q Z → ds.length = ps.length → u (finD Q Z) (startD N ds) cs) : FnOk P w K mg base (L2.CX P w) (k + 1) f fd ps (spL K ps.length sp) := by
  refine F.ok S spL_len fun cdv A outer s H vs Q E hr h => ?_
  obtain ⟨F, cs, ds, Pd, Z, st, r, l, hs, pe, px⟩ := h
  refine ⟨_, hb cdv A outer s H E hr, F, cs, startD N ds, finD Pd Z, st, ?_, hsp ds cs Pd Z hs l, ⟨fun H' cs' σ' ρ' s' _ h' => pe H' cs' .non .non s' .non h', fun _ _ _ _ _ _ h => h.elim, fun _ _ _ _ _ _ h => h.elim, pe, fun H' cs' σ' ρ' x d s' _ r' h' => px H' cs' x d s' r' h'⟩⟩
  unfold startD L2.start
  rw [r.length]
  exact RepE.start _ r
end
theorem takesD {P : Program} {w : World} {K : PySem.W.Frag} {mg : Str → Option Value} {base : Heap} {N : List Str} {qual : Str} {scope : Scope} {f : Addr} {cdv : Value} {A : Around} {outer : List PySem.Env} {s : Shared} {H : Hp} {E : XK} :
    Takes (cxD P w K mg base N qual scope f cdv A outer s H E) (fun cls d _ H => E cls d H) := takes_of rfl rfl rfl rfl
theorem passD {P : Program} {w : World} {K : PySem.W.Frag} {mg : Str → Option Value} {base : Heap} {N : List Str} {qual : Str} {scope : Scope} {f : Addr} {cdv : Value} {A : Around} {outer : List PySem.Env} {s : Shared} {H : Hp} {E : XK} :
    PassesOwn (model P w) (cxD P w K mg base N qual scope f cdv A outer s H E).A (cxD P w K mg base N qual scope f cdv A outer s H E).env (cxD P w K mg base N qual scope f cdv A outer s H E).xe :=
  passes_of (X := cxD P w K mg base N qual scope f cdv A outer s H E) rfl
section
variable {X : Cx} {W : WX} {K : PySem.W.Frag} {σ : L2.St} {H : Hp} {pos : Pos} {a b e : Expr} {wa wb : WE}
/-! ### lists that change: at p, by its address -/
abbrev DSet := D → D → D → Cs → (Cs → Prop) → Prop
def oSetL : DSet := fun o i v cs Q => match o, i with
  | .opq (.ref p), .int k => (match look p cs with
    | some (.lst ds) => (match ixN ds.length k with
      | some j => Q (put p (.lst (ds.set j v)) cs)
      | none => False)
    | _ => False)
  | _, _ => False
/-- o[i] = v -/
def sSetIx (wv wo wi : WE) (o : DSet) : WS := fun f ρ cs => wv ρ cs (fun v cs1 => wo ρ cs1 (fun x cs2 => wi ρ cs2 (fun i cs3 => o x i v cs3 fun cs4 => f.nx ρ cs4) (fun x cs1 => f.ex x ρ cs1)) (fun x cs1 => f.ex x ρ cs1)) (fun x cs1 => f.ex x ρ cs1)
theorem setL_inv {o i v : D} {cs : Cs} {Q : Cs → Prop} (h : oSetL o i v cs Q) : ∃ p k ds j, o = .opq (.ref p) ∧ i = .int k ∧ look p cs = some (.lst ds) ∧ ixN ds.length k = some j ∧ Q (put p (.lst (ds.set j v)) cs) := by
  unfold oSetL at h
  split at h
  · split at h
    · rename_i e
      split at h
      · rename_i e2
        exact ⟨_, _, _, _, rfl, rfl, e, e2, h⟩
      · exact h.elim
    · exact h.elim
  · exact h.elim
theorem lst_at {K : PySem.W.Frag} {F G0 H : Hp} {cs : Cs} {p : Addr} {ds : List D} (s : Sta K F G0 cs H) (h : look p cs = some (.lst ds)) : ∃ vs, H p = some (.lst vs) ∧ RepL K (pur F cs H) vs ds := by
  obtain ⟨o, e, q⟩ := s.look h
  cases o <;> first | exact ⟨_, e, q⟩ | exact q.elim
theorem ds_setix {o i v : Expr} {wo wi wv : WE} {p1 : Pos} (hv : DE X W v wv) (ho : DE X W o wo) (hi : DE X W i wi)
    (ha : ∀ u, assign (.Subscript o i p1) X.env u = (do
      let ov ← holding [u] (eval o X.env)
      let iv ← holding [u, ov] (eval i X.env)
      standAt p1
      holding [u, ov, iv] (setItem ov iv u)
      release [u, ov, iv] []) := by intro _; rfl)
    (hs : swapsWithSole [.Subscript o i p1] v pos.line X.env = pure false := by rfl) (hw : swappedStores [.Subscript o i p1] v X.env = pure none := by rfl) (h1 : (assignEach [.Subscript o i p1] X.env).map (·.2) = [assign (.Subscript o i p1) X.env] := by rfl) :
    DS X W (.Assign [.Subscript o i p1] v pos) (sSetIx wv wo wi oSetL) := PS.imp (ps_asg hv (pg_sub ho hi set_list ha) hs hw h1) fun E σ H h => by
  obtain ⟨F, cs, ρ, f, s, re, hw, pe⟩ := h
  refine ⟨F, cs, ρ, _, _, s, re, hw, fun H1 cs1 y dy s1 r1 h1 => ?_, pe.px re⟩
  refine ⟨F, cs1, ρ, _, _, s1.self, re.mono s1.gr, h1, fun H2 cs2 x dx s2 r2 h2 => ?_, (pe.le s1.gr).px (re.mono s1.gr)⟩
  refine ⟨F, cs2, ρ, _, _, s2.self, re.mono (s1.gr.trans s2.gr), h2, fun H3 cs3 z dz s3 r3 h3 => ?_, (pe.le (s1.gr.trans s2.gr)).px (re.mono (s1.gr.trans s2.gr))⟩
  obtain ⟨p, k, ds, j, rfl, rfl, hl, hj, h⟩ := setL_inv h3
  obtain ⟨vs, e, rl⟩ := lst_at s3 hl
  cases r2
  cases r3
  have s4 := s3.put hl (m' := .lst (ds.set j dy)) (o' := .lst (vs.set j y)) (rl.set (r1.mono (s2.gr.trans s3.gr)) j)
  refine ⟨p, vs, k, j, rfl, rfl, e, by rw [rl.length]; exact hj, ?_⟩
  have g := (s1.gr.trans s2.gr).trans s3.gr
  exact pe.nx _ _ σ ρ (s4.from_ g) (re.mono (g.trans s4.gr)) h
/-- the i-th item of the changing list at p; len of it -/
def oIxM : DO2 := fun x y cs P => match x, y with
  | .opq (.ref p), .int i => (match look p cs with
    | some (.lst ds) => (match atD ds i with
      | some d => P d cs
      | none => False)
    | _ => False)
  | _, _ => False
theorem adq_ixM : Adq K (rIx K) oIxM := fun F cs H x y dx dy P Q s rx ry ho pe => by
  unfold oIxM at ho
  split at ho
  · split at ho
    · rename_i e
      split at ho
      · rename_i d e2
        cases rx
        cases ry
        obtain ⟨vs, e3, rl⟩ := lst_at s e
        obtain ⟨v, e4, rv⟩ := rl.atI e2
        exact .inl ⟨_, _, _, v, rfl, rfl, SqL.of e3, e4, pe H cs _ _ s rv ho⟩
      · exact ho.elim
    · exact ho.elim
  · exact ho.elim
theorem d_ixM (ha : DE X W a wa) (hb : DE X W b wb) (hs : PlainIx b := by intro _ _; rfl) : DE X W (.Subscript a b pos) (wOp oIxM wa wb) := d_ix ix_seq adq_ixM ha hb hs
/-- methods of lists that change -/
abbrev DMt := D → List D → Cs → DP → Prop
def wMt (o : DMt) (wo : WE) (w : WA) : WE := fun ρ cs P Z => wo ρ cs (fun x cs1 => w ρ cs1 (fun ds cs2 => o x ds cs2 P) Z) Z
def oAppend : DMt := fun x ds cs P => match x, ds with
  | .opq (.ref p), [d] => (match look p cs with
    | some (.lst xs) => xs.length < 100000 ∧ P .non (put p (.lst (xs ++ [d])) cs)
    | _ => False)
  | _, _ => False
theorem append_inv {x : D} {ds : List D} {cs : Cs} {P : DP} (h : oAppend x ds cs P) : ∃ p d xs, x = .opq (.ref p) ∧ ds = [d] ∧ look p cs = some (.lst xs) ∧ xs.length < 100000 ∧ P .non (put p (.lst (xs ++ [d])) cs) := by
  unfold oAppend at h
  split at h
  · split at h
    · rename_i e
      exact ⟨_, _, _, rfl, rfl, e, h.1, h.2⟩
    · exact h.elim
  · exact h.elim
end
end DL

namespace DL
open PySem L2
/-! ### parts as rationals -/
def dR (r : Rat) : D := .tup [.int r.num, .int (r.den : Int)]
theorem dR_inj {r s : Rat} (h : dR r = dR s) : r = s := by
  unfold dR at h
  simp at h
  exact Rat.ext h.1 (Int.ofNat_inj.mp h.2)
theorem eqD_int (i j : Int) : eqD (.int i) (.int j) = decide (i = j) := by
  unfold eqD
  rw [Bool.beq_eq_decide_eq]
theorem eqD_dR (r s : Rat) : eqD (dR r) (dR s) = decide (r = s) := by
  unfold dR
  simp only [eqD, eqL, Bool.and_true]
  rw [Bool.beq_eq_decide_eq, Bool.beq_eq_decide_eq, ← Bool.decide_and]
  have e : (r.num = s.num ∧ (r.den : Int) = (s.den : Int)) ↔ r = s := ⟨fun h => Rat.ext h.1 (Int.ofNat_inj.mp h.2), fun h => by rw [h]; exact ⟨rfl, rfl⟩⟩
  exact decide_eq_decide.mpr e
/-- both numbers below 2 ^ n -/
def Sz (n : Nat) (r : Rat) : Prop := r.num.natAbs < 2 ^ n ∧ r.den < 2 ^ n
theorem Sz.mono {n m : Nat} {r : Rat} (h : Sz n r) (l : n ≤ m) : Sz m r :=
  ⟨Nat.lt_of_lt_of_le h.1 (Nat.pow_le_pow_right (by decide) l), Nat.lt_of_lt_of_le h.2 (Nat.pow_le_pow_right (by decide) l)⟩
theorem mulOk_of {i j : Int} {a b : Nat} (ha : i.natAbs < 2 ^ a) (hb : j.natAbs < 2 ^ b) (h : a + b ≤ 900000) : IntMulOk i j := by
  have ha' : i.natAbs < 2 ^ (a + 1) := Nat.lt_of_lt_of_le ha (Nat.pow_le_pow_right (by decide) (Nat.le_succ _))
  have hb' : j.natAbs < 2 ^ (b + 1) := Nat.lt_of_lt_of_le hb (Nat.pow_le_pow_right (by decide) (Nat.le_succ _))
  exact CMulW.ok (wide_mul ha' hb' (Nat.succ_pos _) (Nat.succ_pos _) (by omega))
theorem mulOk_r {i j : Int} (h : j.natAbs < 2 ^ 64) : IntMulOk i j := CMul.ok (Or.inr (by omega))
theorem mulOk_l {i j : Int} (h : i.natAbs < 2 ^ 64) : IntMulOk i j := CMul.ok (Or.inl (by omega))
theorem gcd_pos {a b : Nat} (h : 0 < b) : 0 < Nat.gcd a b := Nat.gcd_pos_of_pos_right a h
/-- what part reckons -/
theorem part_pos (a b : Int) (h : 0 < b) : a / (Nat.gcd a.natAbs b.natAbs : Nat) = (Rat.divInt a b).num ∧ b / (Nat.gcd a.natAbs b.natAbs : Nat) = ((Rat.divInt a b).den : Int) := by
  have e : (Int.gcd b a) = Nat.gcd a.natAbs b.natAbs := by rw [Int.gcd, Nat.gcd_comm]
  constructor
  · rw [Rat.num_divInt, Int.sign_eq_one_of_pos h, Int.one_mul, e]
  · rw [Rat.den_divInt, if_neg (by omega), e]
    have : (b.natAbs : Int) = b := by omega
    rw [Int.natCast_ediv, this]
theorem part_neg (a b : Int) : Rat.divInt (-a) (-b) = Rat.divInt a b := Rat.neg_divInt_neg a b
theorem divInt_add (x y : Rat) : Rat.divInt (x.num * y.den + y.num * x.den) ((x.den : Int) * y.den) = x + y := by
  rw [Rat.add_def', ← Int.natCast_mul, Rat.divInt_ofNat]
theorem divInt_sub (x y : Rat) : Rat.divInt (x.num * y.den - y.num * x.den) ((x.den : Int) * y.den) = x - y := by
  rw [Rat.sub_def', ← Int.natCast_mul, Rat.divInt_ofNat]
theorem divInt_mul (x y : Rat) : Rat.divInt (x.num * y.num) ((x.den : Int) * y.den) = x * y := by
  rw [Rat.mul_def', ← Int.natCast_mul, Rat.divInt_ofNat]
theorem divInt_div (x y : Rat) : Rat.divInt (x.num * y.den) ((x.den : Int) * y.num) = x / y := by
  rw [Rat.div_def, Rat.inv_def, ← Rat.divInt_mul_divInt, Rat.num_divInt_den]
theorem den_ne (x : Rat) : (x.den : Int) ≠ 0 := by have := x.den_nz; omega
theorem den_pos (x : Rat) : (0 : Int) < x.den := by have := x.den_nz; omega
theorem gcd_ok {a b : Nat} (hb : 0 < b) (h : b < 2 ^ 9000) : (0 : Int) < (Nat.gcd a b : Int) ∧ (Nat.gcd a b : Int).natAbs.log2 < 9000 := by
  refine ⟨by have := gcd_pos (a := a) hb; omega, ?_⟩
  refine PySem.Flt.log2_lt_of (by decide) ?_
  rw [Int.natAbs_natCast]
  exact Nat.lt_of_le_of_lt (Nat.gcd_le_right _ hb) h
theorem abs_nat (a : Int) : (if a < 0 then -a else a) = (a.natAbs : Int) := by
  split <;> omega
/-! sizes -/

theorem Sz.divInt {a b : Int} {n m : Nat} (h0 : b ≠ 0) (ha : a.natAbs < 2 ^ n) (hb : b.natAbs < 2 ^ m) (hn : n ≤ m) : Sz m (Rat.divInt a b) := by
  have ha' : a.natAbs < 2 ^ m := Nat.lt_of_lt_of_le ha (Nat.pow_le_pow_right (by decide) hn)
  constructor
  · rw [Rat.num_divInt]
    refine Nat.lt_of_le_of_lt ?_ ha'
    refine Nat.le_trans (Int.natAbs_ediv_le_natAbs _ _) ?_
    rw [Int.natAbs_mul]
    have : b.sign.natAbs ≤ 1 := by
      rcases Int.lt_trichotomy b 0 with h | h | h
      · rw [Int.sign_eq_neg_one_of_neg h]; decide
      · exact absurd h h0
      · rw [Int.sign_eq_one_of_pos h]; decide
    exact Nat.le_trans (Nat.mul_le_mul_right _ this) (by omega)
  · rw [Rat.den_divInt, if_neg h0]
    exact Nat.lt_of_le_of_lt (Nat.div_le_self _ _) hb
theorem lt_mul2 {a b n m : Nat} (ha : a < 2 ^ n) (hb : b < 2 ^ m) : a * b < 2 ^ (n + m) := by
  rw [Nat.pow_add]
  exact Nat.mul_lt_mul'' ha hb
theorem lt_add2 {a b n : Nat} (ha : a < 2 ^ n) (hb : b < 2 ^ n) : a + b < 2 ^ (n + 1) := by
  rw [Nat.pow_succ]; omega
theorem Sz.add {n m : Nat} {x y : Rat} (hx : Sz n x) (hy : Sz m y) : Sz (n + m + 1) (x + y) := by
  rw [← divInt_add]
  refine Sz.divInt (n := n + m + 1) (Int.mul_ne_zero (den_ne x) (den_ne y)) ?_ ?_ (Nat.le_refl _)
  · refine Nat.lt_of_le_of_lt (Int.natAbs_add_le _ _) ?_
    refine lt_add2 ?_ ?_
    · rw [Int.natAbs_mul]; exact lt_mul2 hx.1 hy.2
    · rw [Int.natAbs_mul, Nat.add_comm]; exact lt_mul2 hy.1 hx.2
  · rw [Int.natAbs_mul]
    exact Nat.lt_of_lt_of_le (lt_mul2 hx.2 hy.2) (Nat.pow_le_pow_right (by decide) (Nat.le_succ _))
theorem Sz.neg {n : Nat} {x : Rat} (hx : Sz n x) : Sz n (-x) := ⟨by rw [Rat.neg_num, Int.natAbs_neg]; exact hx.1, by rw [Rat.neg_den]; exact hx.2⟩
theorem Sz.sub {n m : Nat} {x y : Rat} (hx : Sz n x) (hy : Sz m y) : Sz (n + m + 1) (x - y) := by
  rw [Rat.sub_eq_add_neg]; exact hx.add hy.neg
theorem Sz.mul {n m : Nat} {x y : Rat} (hx : Sz n x) (hy : Sz m y) : Sz (n + m) (x * y) := by
  rw [← divInt_mul]
  refine Sz.divInt (n := n + m) (Int.mul_ne_zero (den_ne x) (den_ne y)) ?_ ?_ (Nat.le_refl _)
  · rw [Int.natAbs_mul]; exact lt_mul2 hx.1 hy.1
  · rw [Int.natAbs_mul]; exact lt_mul2 hx.2 hy.2
theorem Sz.div {n m : Nat} {x y : Rat} (hx : Sz n x) (hy : Sz m y) (h : y ≠ 0) : Sz (n + m) (x / y) := by
  rw [← divInt_div]
  refine Sz.divInt (n := n + m) (Int.mul_ne_zero (den_ne x) (fun z => h (Rat.num_eq_zero.mp z))) ?_ ?_ (Nat.le_refl _)
  · rw [Int.natAbs_mul]; exact lt_mul2 hx.1 hy.2
  · rw [Int.natAbs_mul]; exact lt_mul2 hx.2 hy.1
theorem Sz.nn {n m : Nat} {x y : Rat} (hx : Sz n x) (hy : Sz m y) (h : n + m ≤ 900000 := by decide) : IntMulOk x.num y.num := mulOk_of hx.1 hy.1 h
theorem Sz.nd {n m : Nat} {x y : Rat} (hx : Sz n x) (hy : Sz m y) (h : n + m ≤ 900000 := by decide) : IntMulOk x.num (y.den : Int) := mulOk_of hx.1 (by rw [Int.natAbs_natCast]; exact hy.2) h
theorem Sz.dn {n m : Nat} {x y : Rat} (hx : Sz n x) (hy : Sz m y) (h : n + m ≤ 900000 := by decide) : IntMulOk (x.den : Int) y.num := mulOk_of (by rw [Int.natAbs_natCast]; exact hx.2) hy.1 h
theorem Sz.dd {n m : Nat} {x y : Rat} (hx : Sz n x) (hy : Sz m y) (h : n + m ≤ 900000 := by decide) : IntMulOk (x.den : Int) (y.den : Int) := mulOk_of (by rw [Int.natAbs_natCast]; exact hx.2) (by rw [Int.natAbs_natCast]; exact hy.2) h
theorem dd_ok {n m : Nat} {x y : Rat} (hx : Sz n x) (hy : Sz m y) (h : n + m ≤ 9000) : ((x.den : Int) * (y.den : Int)).natAbs < 2 ^ 9000 := by
  rw [Int.natAbs_mul]
  exact Nat.lt_of_lt_of_le (lt_mul2 hx.2 hy.2) (Nat.pow_le_pow_right (by decide) h)
theorem dn_ok {n m : Nat} {x y : Rat} (hx : Sz n x) (hy : Sz m y) (h : n + m ≤ 9000) : ((x.den : Int) * y.num).natAbs < 2 ^ 9000 := by
  rw [Int.natAbs_mul]
  exact Nat.lt_of_lt_of_le (lt_mul2 hx.2 hy.1) (Nat.pow_le_pow_right (by decide) h)
end DL

namespace DL
open PySem PySem.Spec PyProof.Rows L2
section
variable {X : Cx} {W : WX} {K : PySem.W.Frag} {σ : L2.St} {H : Hp} {pos : Pos} {a b e : Expr} {es : List Expr} {wa wb we : DL.WE} {w : WA} {name : Str} {apos cpos : Pos} {T id : String}
/-! ### methods of lists -/
def AdqM (K : PySem.W.Frag) (T : String) (r : V → List V → Hp → VK → Prop) (o : DMt) : Prop := ∀ F cs H x xs dx ds P Q, Sta K F (pur F cs H) cs H → Rep K (pur F cs H) x dx → RepL K (pur F cs H) xs ds → o dx ds cs P → PostE K F (pur F cs H) P Q → r x xs H Q
/-- the receiver is of the type T wherever it stands -/
def IsTy (K : PySem.W.Frag) (T : String) (o : DMt) (g : D → Cs → Prop) : Prop := ∀ F cs H x dx, Sta K F (pur F cs H) cs H → Rep K (pur F cs H) x dx → g dx cs → tyV K T x H
def isL (d : D) (cs : Cs) : Prop := match d with
  | .lst _ => True
  | .opq (.ref p) => (match look p cs with
    | some (.lst _) => True
    | _ => False)
  | _ => False
theorem isL_ty {F : Hp} {cs : Cs} {x : V} {dx : D} (s : Sta K F (pur F cs H) cs H) (r : Rep K (pur F cs H) x dx) (h : isL dx cs) : tyV K "list" x H := by
  unfold isL at h
  split at h
  · cases r with
    | lst h r => exact .inl ⟨rfl, _, ex_l pur_le h⟩
  · split at h
    · rename_i e
      obtain ⟨vs, e2, _⟩ := lst_at s e
      cases r
      exact .inl ⟨rfl, _, SqL.of e2⟩
    · exact h.elim
  · exact h.elim
def wMtL (o : DMt) (wo : DL.WE) (w : WA) : DL.WE := fun ρ cs P Z => wo ρ cs (fun x cs1 => isL x cs1 ∧ w ρ cs1 (fun ds cs2 => o x ds cs2 P) Z) Z
theorem d_bmL {r : V → List V → Hp → VK → Prop} {o : DMt} (slot : Slot "list" name id) (hty : typeOf (.builtin id) = pure (.type "method_descriptor")) (hm : MtR X id r) (adq : AdqM X.K "list" r o) (ho : DE X W a wa) (ha : DA X W (e :: es) w)
    (hbase : attributeBase a name X.env (eval a X.env) = eval a X.env := by rfl)
    (hfew : ((backTo cpos (starEach (e :: es) X.env)).all (fun x => !x.1) && (backToKw cpos (keywordEach [] X.env)).all (fun x => x.1.isSome)
      && decide ((e :: es).length + ([] : List Keyword).length + (if ([] : List Keyword).isEmpty then 0 else 1) < 30)) = true := by rfl)
    (hline : (apos.endLine == cpos.line) = true := by rfl) (hs : starEach (e :: es) X.env = (false, eval e X.env) :: starEach es X.env := by rfl) (hplain : (backTo cpos (starEach es X.env)).any (·.1) = false := by rfl) :
    DE X W (.Call (.Attribute a name apos) (e :: es) [] cpos) (wMtL o wa w) := PE.imp (pe_bm PySem.F.plainAttrs_list slot hty hm ho ha hbase hfew hline hs hplain) fun σ H Q h => by
  obtain ⟨F, cs, ρ, P, Z, s, re, hw, pe, px⟩ := h
  refine ⟨F, cs, ρ, _, Z, s, re, hw, fun H1 cs1 x dx s1 r1 h1 => ⟨isL_ty s1.self r1 h1.1, ?_⟩, px⟩
  refine ⟨F, cs1, ρ, _, Z, s1.self, re.mono s1.gr, h1.2, fun H2 cs2 vs ds s2 r2 l2 h2 => ?_, px.le s1.gr⟩
  exact adq F cs2 H2 x vs dx ds P Q s2.self (r1.mono s2.gr) r2 h2 (pe.le (s1.gr.trans s2.gr))
def wMtL0 (o : DMt) (wo : DL.WE) : DL.WE := fun ρ cs P Z => wo ρ cs (fun x cs1 => isL x cs1 ∧ o x [] cs1 P) Z
theorem d_bmL0 {r : V → List V → Hp → VK → Prop} {o : DMt} (slot : Slot "list" name id) (hty : typeOf (.builtin id) = pure (.type "method_descriptor")) (hm : MtR X id r) (adq : AdqM X.K "list" r o) (ho : DE X W a wa)
    (hbase : attributeBase a name X.env (eval a X.env) = eval a X.env := by rfl) (hline : (apos.endLine == cpos.line) = true := by rfl) :
    DE X W (.Call (.Attribute a name apos) [] [] cpos) (wMtL0 o wa) := PE.imp (pe_bm0 PySem.F.plainAttrs_list slot hty hm ho hbase hline) fun σ H Q h => by
  obtain ⟨F, cs, ρ, P, Z, s, re, hw, pe, px⟩ := h
  exact ⟨F, cs, ρ, _, Z, s, re, hw, fun H1 cs1 x dx s1 r1 h1 => ⟨isL_ty s1.self r1 h1.1, adq F cs1 H1 x [] dx [] P Q s1.self r1 .nil h1.2 (pe.le s1.gr)⟩, px⟩
/-! append -/
theorem adq_append : AdqM K "list" rAppend oAppend := fun F cs H x xs dx ds P Q s rx rl ho pe => by
  obtain ⟨p, d, ys, rfl, rfl, hl, hz, h⟩ := append_inv ho
  obtain ⟨vs, e, rv⟩ := lst_at s hl
  cases rx
  cases rl with
  | cons r1 r2 =>
    cases r2
    have s4 := s.put hl (m' := .lst (ys ++ [d])) (o' := .lst (vs ++ [_])) (rv.append (.cons r1 .nil))
    exact ⟨p, vs, _, rfl, rfl, e, by rw [rv.length]; exact Nat.lt_of_lt_of_le hz (by decide), pe _ _ _ _ s4 .non h⟩
theorem d_append (ho : DE X W a wa) (ha : DA X W [e] w) (hbase : attributeBase a "append" X.env (eval a X.env) = eval a X.env := by rfl)
    (hfew : ((backTo cpos (starEach [e] X.env)).all (fun x => !x.1) && (backToKw cpos (keywordEach [] X.env)).all (fun x => x.1.isSome)
      && decide ([e].length + ([] : List Keyword).length + (if ([] : List Keyword).isEmpty then 0 else 1) < 30)) = true := by rfl)
    (hline : (apos.endLine == cpos.line) = true := by rfl) (hs : starEach [e] X.env = (false, eval e X.env) :: starEach [] X.env := by rfl) (hplain : (backTo cpos (starEach [] X.env)).any (·.1) = false := by rfl) :
    DE X W (.Call (.Attribute a "append" apos) [e] [] cpos) (wMtL oAppend wa w) := d_bmL PySem.F.slot_list_append PySem.F.type_list_append mt_append adq_append ho ha hbase hfew hline hs hplain
/-! pop() -/
def oPop : DMt := fun x ds cs P => match x, ds with
  | .opq (.ref p), [] => (match look p cs with
    | some (.lst xs) => (match xs[xs.length - 1]? with
      | some d => P d (put p (.lst xs.dropLast) cs)
      | none => False)
    | _ => False)
  | _, _ => False
theorem adq_pop : AdqM K "list" rPop oPop := fun F cs H x xs dx ds P Q s rx rl ho pe => by
  unfold oPop at ho
  split at ho
  · split at ho
    · rename_i hl
      split at ho
      · rename_i d e1
        obtain ⟨vs, e, rv⟩ := lst_at s hl
        cases rx
        cases rl
        obtain ⟨v, e2, r2⟩ := rv.get e1
        have s4 := s.put hl (m' := .lst (List.dropLast _)) (o' := .lst (vs.dropLast)) rv.dropLast
        exact ⟨_, vs, v, rfl, rfl, e, by rw [rv.length]; exact e2, pe _ _ _ _ s4 (r2.mono s4.gr) ho⟩
      · exact ho.elim
    · exact ho.elim
  · exact ho.elim
theorem d_pop (ho : DE X W a wa) (hbase : attributeBase a "pop" X.env (eval a X.env) = eval a X.env := by rfl) (hline : (apos.endLine == cpos.line) = true := by rfl) :
    DE X W (.Call (.Attribute a "pop" apos) [] [] cpos) (wMtL0 oPop wa) := d_bmL0 PySem.F.slot_list_pop PySem.F.type_list_pop mt_pop adq_pop ho hbase hline
/-! count over data -/
def cntD (xs : List D) (d : D) : Nat := xs.countP fun y => eqD y d
def rCntD (K : PySem.W.Frag) : V → List V → Hp → VK → Prop := fun x xs H Q => ∃ p ys y ds d, x = .ref p ∧ xs = [y] ∧ SqL K H p ys ∧ DpAll K H ys ds ∧ Dp K H y d ∧ PyData.plainAll ds = true ∧ d.plain = true ∧ d.depth ≤ 60 ∧ Q (.int ((ds.countP fun z => PyData.eqv z d : Nat) : Int)) H
theorem mt_countD (hu : X.A.units + 64 < cLine) : MtR X "list.count" (rCntD X.K) := by
  intro pins s σ H x xs v us Q I rx rxs h
  obtain ⟨p, ys, y, ds, d, rfl, rfl, hs, hds, hd, p1, p2, p3, q⟩ := h
  cases rx
  obtain ⟨u, rfl, ru⟩ := rxs.one
  obtain ⟨its, rv, ⟨o, n, ho, hc, hdn, hdd⟩, hlen⟩ := I.list hs
  obtain ⟨as, r1⟩ := Dp.readsAll I ds ys its hds rv
  obtain ⟨bs, r2⟩ := Dp.reads I d y u hd ru
  refine PySem.SeqAt.count_list_data (vs := its.toArray) ⟨o, ho, hc, n, hdd⟩ (by simpa using r1) r2 p1 p2 ?_ ⟨.int _, H, I.tok _, ⟨_, rfl⟩, q⟩
  have h2 : min (PyData.depthAll ds) d.depth ≤ d.depth := Nat.min_le_right _ _
  omega
def oCount : DMt := fun x ds cs P => match x, ds with
  | .lst xs, [d] => plL 20 xs = true ∧ plD 20 d = true ∧ P (.int (cntD xs d : Int)) cs
  | _, _ => False
theorem count_eqv (d : D) (hd : plD 20 d = true) : ∀ xs : List D, plL 20 xs = true → (pyL xs).countP (fun z => PyData.eqv z (pyD d)) = cntD xs d
  | [], _ => by simp [pyL, cntD]
  | x :: xs, h => by
    simp only [plL, Bool.and_eq_true] at h
    have ih := count_eqv d hd xs h.2
    simp only [pyL, cntD, List.countP_cons] at ih ⊢
    rw [ih, eqD_eqv x d 20 20 h.1 hd]
theorem adq_count : AdqM K "list" (rCntD K) oCount := fun F cs H x xs dx ds P Q s rx rl ho pe => by
  unfold oCount at ho
  split at ho
  · obtain ⟨p1, p2, h⟩ := ho
    cases rx with
    | lst h1 r1 =>
      cases rl with
      | cons r2 r3 =>
        cases r3
        have a2 := plD_plain _ 20 p2
        refine ⟨_, _, _, _, _, rfl, rfl, ex_l pur_le h1, RepL.dp pur_le 20 r1 p1, Rep.dp pur_le 20 r2 p2, (plL_plain _ 20 p1).1, a2.1, Nat.le_trans a2.2 (by decide), ?_⟩
        rw [count_eqv _ p2 _ p1]
        exact pe H cs _ _ s (.int _) h
  · exact ho.elim
theorem d_count (hu : X.A.units + 64 < cLine) (ho : DE X W a wa) (ha : DA X W [e] w) (hbase : attributeBase a "count" X.env (eval a X.env) = eval a X.env := by rfl)
    (hfew : ((backTo cpos (starEach [e] X.env)).all (fun x => !x.1) && (backToKw cpos (keywordEach [] X.env)).all (fun x => x.1.isSome)
      && decide ([e].length + ([] : List Keyword).length + (if ([] : List Keyword).isEmpty then 0 else 1) < 30)) = true := by rfl)
    (hline : (apos.endLine == cpos.line) = true := by rfl) (hs : starEach [e] X.env = (false, eval e X.env) :: starEach [] X.env := by rfl) (hplain : (backTo cpos (starEach [] X.env)).any (·.1) = false := by rfl) :
    DE X W (.Call (.Attribute a "count" apos) [e] [] cpos) (wMtL oCount wa w) := d_bmL PySem.F.slot_list_count PySem.F.type_list_count (mt_countD hu) adq_count ho ha hbase hfew hline hs hplain
end
end DL

/-! DLG: how a reading over data is gone through, head by head. -/
namespace DL
open PySem PySem.Spec PyProof.Rows L2
section
variable {ρ : DL.Env} {cs : Cs} {P : DP} {Z : XZ} {wa wb we wo wi wv : DL.WE} {w : WA} {ta tb : WT} {u v : WS} {f : Fin} {Q : Bool → Cs → Prop} {d x y : D} {i j : Nat} {PA : List D → Cs → Prop}
section
variable {nx bk ct : DL.Env → Cs → Prop} {rt : D → Cs → Prop} {ex : Exn → DL.Env → Cs → Prop}
theorem r_seq (h : u ⟨fun ρ' cs' => v ⟨nx, rt, ex, bk, ct⟩ ρ' cs', rt, ex, bk, ct⟩ ρ cs) : sSeq u v ⟨nx, rt, ex, bk, ct⟩ ρ cs := h
theorem r_key (N : DL.Env → Cs → Prop) (h1 : ∀ ρ' cs', N ρ' cs' → v ⟨nx, rt, ex, bk, ct⟩ ρ' cs') (h2 : ∀ nx' : DL.Env → Cs → Prop, (∀ ρ' cs', N ρ' cs' → nx' ρ' cs') → u ⟨nx', rt, ex, bk, ct⟩ ρ cs) : sSeq u v ⟨nx, rt, ex, bk, ct⟩ ρ cs := h2 _ h1
theorem r_chk (h2 : ∀ nx' : DL.Env → Cs → Prop, nx' ρ cs → u ⟨nx', rt, ex, bk, ct⟩ ρ cs) (h1 : v ⟨nx, rt, ex, bk, ct⟩ ρ cs) : sSeq u v ⟨nx, rt, ex, bk, ct⟩ ρ cs := h2 _ h1
end
theorem r_loop {g : WG} {wb : WS} (I : Nat → DL.Env → Cs → Prop) : ∀ (xs : List D) (k : Nat) {ρ : DL.Env} {cs : Cs}, I k ρ cs →
    (∀ i d ρ cs (N : DL.Env → Cs → Prop), xs[i]? = some d → I (k + i) ρ cs → (∀ ρ' cs', I (k + i + 1) ρ' cs' → N ρ' cs') → g d ρ fun ρ1 => wb { f with nx := N, ct := N, bk := f.nx } ρ1 cs) →
    (∀ ρ cs, I (k + xs.length) ρ cs → f.nx ρ cs) → loopW g wb f xs ρ cs
  | [], k, ρ, cs, h0, hs, hd => hd ρ cs h0
  | d :: r, k, ρ, cs, h0, hs, hd => by
    refine hs 0 d ρ cs _ rfl h0 fun ρ' cs' h1 => r_loop I r (k + 1) h1 (fun i d ρ cs N e hi hn => ?_) (fun ρ cs h => ?_)
    · have e1 : k + (i + 1) = k + 1 + i := by omega
      refine hs (i + 1) d ρ cs N e (by rw [e1]; exact hi) fun ρ' cs' hh => hn ρ' cs' (by rw [← e1]; exact hh)
    · refine hd ρ cs ?_
      have e1 : k + (d :: r).length = k + 1 + r.length := by rw [List.length_cons]; omega
      rw [e1]; exact h
theorem r_loop0 {nx bk ct : DL.Env → Cs → Prop} {rt : D → Cs → Prop} {ex : Exn → DL.Env → Cs → Prop} {g : WG} {wb : WS} (I : Nat → DL.Env → Cs → Prop) {xs : List D} (h0 : I 0 ρ cs)
    (hs : ∀ i d ρ cs (N : DL.Env → Cs → Prop), xs[i]? = some d → I i ρ cs → (∀ ρ' cs', I (i + 1) ρ' cs' → N ρ' cs') → g d ρ fun ρ1 => wb ⟨N, rt, ex, nx, N⟩ ρ1 cs)
    (hd : ∀ ρ cs, I xs.length ρ cs → nx ρ cs) : loopW g wb ⟨nx, rt, ex, bk, ct⟩ xs ρ cs :=
  r_loop I xs 0 h0 (fun i d ρ cs N e hi hn => hs i d ρ cs N e (by rw [Nat.zero_add] at hi; exact hi) (by rw [Nat.zero_add] at hn; exact hn)) (fun ρ cs h => hd ρ cs (by rw [Nat.zero_add] at h; exact h))
theorem r_while {nx bk ct : DL.Env → Cs → Prop} {rt : D → Cs → Prop} {ex : Exn → DL.Env → Cs → Prop} {wt : WT} {wb : WS} (I : Nat → DL.Env → Cs → Prop) (h0 : ∃ m, I m ρ cs)
    (hs : ∀ m ρ cs (N : DL.Env → Cs → Prop), I m ρ cs → (∀ m' ρ' cs', m' < m → I m' ρ' cs' → N ρ' cs') → wt ρ cs (fun k cs1 => (k = true → wb ⟨N, rt, ex, nx, N⟩ ρ cs1) ∧ (k = false → nx ρ cs1)) (fun x cs1 => ex x ρ cs1)) :
    sWhile wt wb ⟨nx, rt, ex, bk, ct⟩ ρ cs := ⟨I, h0, fun m ρ cs h => hs m ρ cs _ h fun m' ρ' cs' hm hi => ⟨m', hm, hi⟩⟩
theorem r_gN {k : DL.Env → Prop} (h : k (ρ.set i (some d))) : gN i d ρ k := h
theorem r_gT {n : Nat} {gs : WGs} {ds : List D} {k : DL.Env → Prop} (hn : ds.length = n) (h : gs ds ρ k) : gT n gs (.tup ds) ρ k := ⟨hn, h⟩
theorem r_gCn {g : WG} {gs : WGs} {ds : List D} {k : DL.Env → Prop} (h : g d ρ fun ρ' => gs ds ρ' k) : gCn g gs (d :: ds) ρ k := h
theorem r_gNl {k : DL.Env → Prop} (h : k ρ) : gNl [] ρ k := h
theorem rng_get {lo : Int} {n i : Nat} {d : D} (h : (rngD lo n)[i]? = some d) : d = .int (lo + (i : Int)) ∧ i < n := by
  obtain ⟨h1, h2⟩ := List.getElem?_eq_some_iff.mp h
  simp [rngD] at h1 h2
  exact ⟨h2.symm, h1⟩
theorem rng_len (lo : Int) (n : Nat) : (rngD lo n).length = n := by simp [rngD]
theorem r_kT {A B : Prop} (h : A) : (true = true → A) ∧ (true = false → B) := ⟨fun _ => h, fun z => absurd z (by decide)⟩
theorem r_nT {A B : Prop} (h : B) : ((!true) = true → A) ∧ ((!true) = false → B) := ⟨fun z => absurd z (by decide), fun _ => h⟩
theorem r_nF {A B : Prop} (h : A) : ((!false) = true → A) ∧ ((!false) = false → B) := ⟨fun _ => h, fun z => absurd z (by decide)⟩
theorem r_kF {A B : Prop} (h : B) : (false = true → A) ∧ (false = false → B) := ⟨fun z => absurd z (by decide), fun _ => h⟩
section
variable {nx bk ct : DL.Env → Cs → Prop} {rt : D → Cs → Prop} {ex : Exn → DL.Env → Cs → Prop}
theorem r_nx (h : nx ρ cs) : Fin.nx ⟨nx, rt, ex, bk, ct⟩ ρ cs := h
theorem r_rt (h : rt d cs) : Fin.rt ⟨nx, rt, ex, bk, ct⟩ d cs := h
theorem r_bk (h : bk ρ cs) : Fin.bk ⟨nx, rt, ex, bk, ct⟩ ρ cs := h
theorem r_cn (h : ct ρ cs) : Fin.ct ⟨nx, rt, ex, bk, ct⟩ ρ cs := h
end
theorem r_next (h : f.nx ρ cs) : sNext f ρ cs := h
theorem r_ret (h : we ρ cs f.rt (fun x cs1 => f.ex x ρ cs1)) : sRet we f ρ cs := h
theorem r_retN (h : f.rt .non cs) : sRetN f ρ cs := h
theorem r_drop (h : we ρ cs (fun _ cs1 => f.nx ρ cs1) (fun x cs1 => f.ex x ρ cs1)) : sDrop we f ρ cs := h
theorem r_brk (h : f.bk ρ cs) : sBreak f ρ cs := h
theorem r_ct (h : f.ct ρ cs) : sCont f ρ cs := h
theorem r_sif (h : ta ρ cs (fun k cs1 => (k = true → u f ρ cs1) ∧ (k = false → v f ρ cs1)) (fun x cs1 => f.ex x ρ cs1)) : sIf ta u v f ρ cs := h
theorem r_set (h : we ρ cs (fun d cs1 => f.nx (ρ.set i (some d)) cs1) (fun x cs1 => f.ex x ρ cs1)) : sAsg we (gN i) f ρ cs := h
theorem r_asg {g : WG} (h : we ρ cs (fun d cs1 => g d ρ fun ρ' => f.nx ρ' cs1) (fun x cs1 => f.ex x ρ cs1)) : sAsg we g f ρ cs := h
theorem r_par (h : wa ρ cs (fun x cs1 => wb ρ cs1 (fun y cs2 => f.nx ((ρ.set i (some x)).set j (some y)) cs2) (fun x cs1 => f.ex x ρ cs1)) (fun x cs1 => f.ex x ρ cs1)) : sPar i j (wCons wa (wCons wb wNil)) f ρ cs := h
theorem r_setix (h : wv ρ cs (fun v cs1 => wo ρ cs1 (fun x cs2 => wi ρ cs2 (fun i cs3 => oSetL x i v cs3 fun cs4 => f.nx ρ cs4) (fun x cs1 => f.ex x ρ cs1)) (fun x cs1 => f.ex x ρ cs1)) (fun x cs1 => f.ex x ρ cs1)) : sSetIx wv wo wi oSetL f ρ cs := h
theorem r_aug {o : DO2} (hi : ρ[i]? = some (some x)) (h : we ρ cs (fun y cs1 => o x y cs1 fun z cs2 => f.nx (ρ.set i (some z)) cs2) (fun x cs1 => f.ex x ρ cs1)) : sAug i o we f ρ cs := by
  unfold sAug; rw [hi]; exact h
theorem r_for {wi : WI} {g : WG} (h : wi ρ cs (fun xs cs1 => loopW g u f xs ρ cs1) (fun x cs1 => f.ex x ρ cs1)) : sFor wi g u f ρ cs := h
theorem r_var (hi : ρ[i]? = some (some d)) (h : P d cs) : wVar i ρ cs P Z := by
  unfold wVar; rw [hi]; exact h
theorem r_c (h : P d cs) : wC d ρ cs P Z := h
theorem r_op {o : DO2} (h : wa ρ cs (fun x cs1 => wb ρ cs1 (fun y cs2 => o x y cs2 P) Z) Z) : wOp o wa wb ρ cs P Z := h
theorem r_un {o : D → Cs → DP → Prop} (h : wa ρ cs (fun x cs1 => o x cs1 P) Z) : wUn o wa ρ cs P Z := h
theorem r_test (h : wa ρ cs (fun x cs1 => match x with | .bl k => Q k cs1 | _ => False) Z) : wTest wa ρ cs Q Z := h
theorem r_and (h : ta ρ cs (fun k cs1 => (k = true → tb ρ cs1 Q Z) ∧ (k = false → Q false cs1)) Z) : wAnd ta tb ρ cs Q Z := h
theorem r_or (h : ta ρ cs (fun k cs1 => (k = true → Q true cs1) ∧ (k = false → tb ρ cs1 Q Z)) Z) : wOr ta tb ρ cs Q Z := h
theorem r_not (h : ta ρ cs (fun k cs1 => Q (!k) cs1) Z) : wNot ta ρ cs Q Z := h
theorem r_if (h : ta ρ cs (fun k cs1 => (k = true → wa ρ cs1 P Z) ∧ (k = false → wb ρ cs1 P Z)) Z) : wIf ta wa wb ρ cs P Z := h
theorem r_andV (h : wa ρ cs (fun x cs1 => match x with | .bl k => (k = true → wb ρ cs1 P Z) ∧ (k = false → P (.bl false) cs1) | _ => False) Z) : wAndV wa wb ρ cs P Z := h
theorem r_orV (h : wa ρ cs (fun x cs1 => match x with | .bl k => (k = true → P (.bl true) cs1) ∧ (k = false → wb ρ cs1 P Z) | _ => False) Z) : wOrV wa wb ρ cs P Z := h
theorem r_notV (h : wa ρ cs (fun x cs1 => match x with | .bl k => P (.bl (!k)) cs1 | _ => False) Z) : wNotV wa ρ cs P Z := h
theorem r_nil (h : PA [] cs) : wNil ρ cs PA Z := h
theorem r_cons (h : we ρ cs (fun x cs1 => w ρ cs1 (fun xs cs2 => PA (x :: xs) cs2) Z) Z) : wCons we w ρ cs PA Z := h
theorem r_tup (h : w ρ cs (fun ds cs1 => P (.tup ds) cs1) Z) : wTup w ρ cs P Z := h
theorem r_lst (h : w ρ cs (fun ds cs1 => P (.lst ds) cs1) Z) : wLst w ρ cs P Z := h
theorem r_cb {o : DOn} (h : w ρ cs (fun ds cs1 => o ds cs1 P) Z) : wCB o w ρ cs P Z := h
theorem r_call {sp : DSp} (h : w ρ cs (fun ds cs1 => sp ds cs1 P Z) Z) : wCall sp [] w ρ cs P Z := by
  unfold wCall
  have e : (fun (ds : List D) (cs1 : Cs) => sp (ds ++ []) cs1 P Z) = fun ds cs1 => sp ds cs1 P Z := by
    funext ds cs1
    rw [List.append_nil]
  rw [e]
  exact h
theorem r_mtL {o : DMt} (h : wo ρ cs (fun x cs1 => isL x cs1 ∧ w ρ cs1 (fun ds cs2 => o x ds cs2 P) Z) Z) : wMtL o wo w ρ cs P Z := h
theorem r_mtL0 {o : DMt} (h : wo ρ cs (fun x cs1 => isL x cs1 ∧ o x [] cs1 P) Z) : wMtL0 o wo ρ cs P Z := h
variable {a b : Int} {p : Addr} {xs : List D}
theorem r_add (h : P (.int (a + b)) cs) : oAdd (.int a) (.int b) cs P := h
theorem r_sub (h : P (.int (a - b)) cs) : oSub (.int a) (.int b) cs P := h
theorem r_mul (hm : IntMulOk a b) (h : P (.int (a * b)) cs) : oMul (.int a) (.int b) cs P := ⟨hm, h⟩
theorem r_div (hm : 0 < b ∧ b.natAbs.log2 < 9000) (h : P (.int (a / b)) cs) : oDiv (.int a) (.int b) cs P := ⟨hm, h⟩
theorem r_mod (hm : 0 < b) (h : P (.int (a % b)) cs) : oMod (.int a) (.int b) cs P := ⟨hm, h⟩
theorem r_pow (hm : CPow a b) (h : P (.int (a ^ b.toNat)) cs) : oPow (.int a) (.int b) cs P := ⟨hm, h⟩
theorem r_lt (h : P (.bl (decide (a < b))) cs) : oLt (.int a) (.int b) cs P := h
theorem r_le (h : P (.bl (decide (a ≤ b))) cs) : oLe (.int a) (.int b) cs P := h
theorem r_gt (h : P (.bl (decide (b < a))) cs) : oGt (.int a) (.int b) cs P := h
theorem r_ge (h : P (.bl (decide (b ≤ a))) cs) : oGe (.int a) (.int b) cs P := h
theorem r_neg (h : P (.int (-a)) cs) : oNeg (.int a) cs P := h
theorem r_eqI (h : P (.bl (decide (a = b))) cs) : oEq (.int a) (.int b) cs P := ⟨rfl, rfl, by rw [eqD_int]; exact h⟩
theorem r_neI (h : P (.bl (!decide (a = b))) cs) : oNe (.int a) (.int b) cs P := ⟨rfl, rfl, by rw [eqD_int]; exact h⟩
theorem r_eqS {s t : Str} (h : P (.bl (decide (s = t))) cs) : oEq (.str s) (.str t) cs P := ⟨rfl, rfl, by
  have e : eqD (.str s) (.str t) = decide (s = t) := by unfold eqD; rw [Bool.beq_eq_decide_eq]
  rw [e]; exact h⟩
theorem r_neS {s t : Str} (h : P (.bl (!decide (s = t))) cs) : oNe (.str s) (.str t) cs P := ⟨rfl, rfl, by
  have e : eqD (.str s) (.str t) = decide (s = t) := by unfold eqD; rw [Bool.beq_eq_decide_eq]
  rw [e]; exact h⟩
theorem eqD_bl (k l : Bool) : eqD (.bl k) (.bl l) = (k == l) := by unfold eqD; rfl
theorem r_eqB {k l : Bool} (h : P (.bl (k == l)) cs) : oEq (.bl k) (.bl l) cs P := ⟨rfl, rfl, by rw [eqD_bl]; exact h⟩
theorem r_neB {k l : Bool} (h : P (.bl (!(k == l))) cs) : oNe (.bl k) (.bl l) cs P := ⟨rfl, rfl, by rw [eqD_bl]; exact h⟩
theorem plD_dR (r : Rat) {n : Nat} : plD (n + 1) (dR r) = true := by
  cases n <;> rfl
theorem r_eqR {r s : Rat} (h : P (.bl (decide (r = s))) cs) : oEq (dR r) (dR s) cs P := ⟨plD_dR r, plD_dR s, by rw [eqD_dR]; exact h⟩
theorem r_neR {r s : Rat} (h : P (.bl (!decide (r = s))) cs) : oNe (dR r) (dR s) cs P := ⟨plD_dR r, plD_dR s, by rw [eqD_dR]; exact h⟩
theorem r_ixT (hi : atD xs a = some d) (h : P d cs) : oIx (.tup xs) (.int a) cs P := by
  unfold oIx; simp only [hi]; exact h
theorem r_ixL (hi : atD xs a = some d) (h : P d cs) : oIx (.lst xs) (.int a) cs P := by
  unfold oIx; simp only [hi]; exact h
theorem r_ixR0 {r : Rat} (h : P (.int r.num) cs) : oIx (dR r) (.int 0) cs P := h
theorem r_ixR1 {r : Rat} (h : P (.int (r.den : Int)) cs) : oIx (dR r) (.int 1) cs P := h
theorem r_ixM (hl : look p cs = some (.lst xs)) (hi : atD xs a = some d) (h : P d cs) : oIxM (.opq (.ref p)) (.int a) cs P := by
  unfold oIxM; simp only [hl, hi]; exact h
theorem r_setL {R : Cs → Prop} (hl : look p cs = some (.lst xs)) (hi : ixN xs.length a = some j) (h : R (put p (.lst (xs.set j d)) cs)) : oSetL (.opq (.ref p)) (.int a) d cs R := by
  unfold oSetL; simp only [hl, hi]; exact h
theorem r_abs (h : P (.int (if a < 0 then -a else a)) cs) : oAbs [.int a] cs P := h
theorem r_lenL (h : P (.int (xs.length : Int)) cs) : oLen [.lst xs] cs P := h
theorem r_lenT (h : P (.int (xs.length : Int)) cs) : oLen [.tup xs] cs P := h
theorem r_listL (h : P (.lst xs) cs) : oList [.lst xs] cs P := h
theorem r_listT (h : P (.lst xs) cs) : oList [.tup xs] cs P := h
theorem r_append (hl : look p cs = some (.lst xs)) (hz : xs.length < 100000) (h : P .non (put p (.lst (xs ++ [d])) cs)) : oAppend (.opq (.ref p)) [d] cs P := by
  unfold oAppend; simp only [hl]; exact ⟨hz, h⟩
theorem r_isM (hl : look p cs = some (.lst xs)) {R : Prop} (h : R) : isL (.opq (.ref p)) cs ∧ R := ⟨by unfold isL; simp only [hl], h⟩
theorem r_isL {R : Prop} (h : R) : isL (.lst xs) cs ∧ R := ⟨trivial, h⟩
theorem r_count (h1 : plL 20 xs = true) (h2 : plD 20 d = true) (h : P (.int (cntD xs d : Int)) cs) : oCount (.lst xs) [d] cs P := ⟨h1, h2, h⟩
theorem r_seqI {R : List D → Cs → Prop} (h : we ρ cs (fun d cs1 => match d with | .lst xs => R xs cs1 | _ => False) Z) : iSeq we ρ cs R Z := h
theorem r_tupI {R : List D → Cs → Prop} (h : we ρ cs (fun d cs1 => match d with | .tup xs => R xs cs1 | _ => False) Z) : iTupD we ρ cs R Z := h
theorem r_rg1 {R : List D → Cs → Prop} (h : we ρ cs (fun d cs1 => match d with | .int j => (-(2 ^ 62) ≤ j ∧ j < 2 ^ 62) ∧ R (rngD 0 j.toNat) cs1 | _ => False) Z) : iRg1 (wCons we wNil) ρ cs R Z := by
  unfold iRg1 wCons wNil
  have e : (fun (d : D) (cs1 : Cs) => (match [d] with | [D.int j] => (-(2 ^ 62) ≤ j ∧ j < 2 ^ 62) ∧ R (rngD 0 j.toNat) cs1 | _ => False)) = fun d cs1 => match d with | .int j => (-(2 ^ 62) ≤ j ∧ j < 2 ^ 62) ∧ R (rngD 0 j.toNat) cs1 | _ => False := by
    funext d cs1
    cases d <;> rfl
  rw [← e] at h
  exact h
theorem divOk {b : Int} (h : 0 < b) (h2 : b < 2 ^ 60) : 0 < b ∧ b.natAbs.log2 < 9000 := by
  refine ⟨h, ?_⟩
  have e : b.natAbs < 2 ^ 60 := by omega
  exact Nat.lt_of_lt_of_le (PySem.Flt.log2_lt_of (by decide) e) (by decide)
theorem put_look {p : Addr} {m : MO} : ∀ {cs : Cs}, look p cs = some m → put p m cs = cs
  | [], h => by cases h
  | (a, x) :: r, h => by
    unfold look at h
    unfold put
    split at h
    · rename_i e
      cases h
      rw [if_pos e]
    · rename_i e
      rw [if_neg e, put_look h]
theorem decT {p : Prop} [Decidable p] (h : decide p = true) : p := of_decide_eq_true h
theorem decF {p : Prop} [Decidable p] (h : decide p = false) : ¬ p := of_decide_eq_false h
theorem ndecT {p : Prop} [Decidable p] (h : (!decide p) = true) : ¬ p := by simpa using h
theorem ndecF {p : Prop} [Decidable p] (h : (!decide p) = false) : p := by simpa using h
end
end DL

namespace DL
open PySem PySem.Spec PyProof.Rows L2
/-! ### the end of a law -/
def sp_law : DSp := fun ds cs P _ => ∃ ns : List Int, ds = [.lst (ns.map D.int)] ∧ ns.length ≤ 63 ∧ cs = [] ∧ ∀ cs', P (.bl true) cs'
theorem calmF {P : Program} {w : World} {K : PySem.W.Frag} {mg : Str → Option Value} {base : Heap} {k : Nat} {f : Addr} {fd : FuncData} {ps : List Str} {sp : Sp} (h : FnOk P w K mg base (L2.CX P w) k f fd ps sp) :
    FnOk P w K mg base CX0 k f fd ps (fun vs H Q _ => sp vs H Q fun _ _ _ => False) := by
  refine ⟨fun vs H Q E q => h.len vs H Q _ q, fun A outer s H args us vs Q E hr e0 hb r q => ?_⟩
  refine codeAny_mono (h.run A outer s H args us vs Q (fun _ _ _ => False) hr e0 hb r q) fun r s' hq => ?_
  cases r with
  | error e =>
    obtain ⟨_, _, _, _, _, _, _, _, _, _, _, _, z⟩ := hq
    exact z.elim
  | ok fl => cases fl <;> exact hq
theorem law_start {K : PySem.W.Frag} {H : Hp} {a : Addr} {ns : List Int} (hl : ns.length ≤ 63) (hS : SqL K H a (ns.map V.int)) : (fun (vs : List V) (H : Hp) (Q : VK) (_ : XK) => spL K 1 sp_law vs H Q fun _ _ _ => False) [.ref a] H (fun v _ => v = .bl true) (fun _ _ _ => False) := by
  refine ⟨fun _ => none, [], [.lst (ns.map D.int)], fun d _ => d = .bl true, fun _ _ => False, ⟨fun _ _ h => (nomatch h), Ex.refl _, List.nodup_nil, fun _ h => (nomatch h), fun _ _ h => (nomatch h)⟩, ?_, rfl, ⟨ns, rfl, hl, rfl, fun _ => rfl⟩, ?_, fun _ _ _ _ _ _ h => h⟩
  · have e : pur (fun _ => none) [] H = H := by
      funext b
      exact pur_at rfl (by simp [adr])
    rw [e]
    exact .cons (.lst hS (RepL.ofInts ns)) .nil
  · intro H' cs' v d s r e
    subst e
    cases r
    rfl
end DL

namespace Lw
open PySem PySem.Spec PyProof.Rows L2 DL

local macro_rules | `(tactic| walk_at "st") => `(tactic| (first
  | with_reducible refine r_kT ?_ | with_reducible refine r_kF ?_ | with_reducible refine r_nT ?_ | with_reducible refine r_nF ?_ | with_reducible refine r_nx ?_ | with_reducible refine r_rt ?_ | with_reducible refine r_bk ?_ | with_reducible refine r_cn ?_ | with_reducible refine r_gN ?_ | with_reducible refine r_gCn ?_ | with_reducible refine r_gNl ?_ | ((with_reducible apply r_gT); (exact rfl)) | with_reducible refine r_sif ?_ | with_reducible refine r_set ?_ | with_reducible refine r_asg ?_ | with_reducible refine r_ret ?_ | with_reducible refine r_op ?_ | with_reducible refine r_test ?_
  | ((with_reducible apply r_var); (exact rfl)) | with_reducible refine r_c ?_ | with_reducible refine r_cons ?_ | with_reducible refine r_nil ?_ | with_reducible refine r_call ?_ | with_reducible refine r_cb ?_
  | with_reducible refine r_tup ?_ | with_reducible refine r_lst ?_ | with_reducible refine r_par ?_ | with_reducible refine r_setix ?_ | with_reducible refine r_and ?_ | with_reducible refine r_or ?_ | with_reducible refine r_not ?_
  | with_reducible refine r_if ?_ | with_reducible refine r_andV ?_ | with_reducible refine r_orV ?_ | with_reducible refine r_notV ?_ | with_reducible refine r_drop ?_ | with_reducible refine r_next ?_ | with_reducible refine r_un ?_ | with_reducible refine r_for ?_
  | with_reducible refine r_mtL ?_ | with_reducible refine r_mtL0 ?_ | with_reducible refine r_seqI ?_ | with_reducible refine r_tupI ?_ | with_reducible refine r_rg1 ?_ | with_reducible refine r_retN ?_ | with_reducible refine r_brk ?_ | with_reducible refine r_ct ?_
  | with_reducible refine r_ixR0 ?_ | with_reducible refine r_ixR1 ?_ | with_reducible refine r_add ?_ | with_reducible refine r_sub ?_ | with_reducible refine r_lt ?_ | with_reducible refine r_le ?_ | with_reducible refine r_gt ?_ | with_reducible refine r_ge ?_ | with_reducible refine r_neg ?_
  | with_reducible refine r_eqI ?_ | with_reducible refine r_neI ?_ | with_reducible refine r_eqR ?_ | with_reducible refine r_neR ?_ | with_reducible refine r_eqB ?_ | with_reducible refine r_neB ?_ | with_reducible refine r_eqS ?_ | with_reducible refine r_neS ?_
  | ((with_reducible apply r_ixT); (exact rfl)) | ((with_reducible apply r_ixL); (exact rfl))
  | ((with_reducible apply r_ixM); (first | assumption | exact look_put (by assumption) | exact look_put (look_put (by assumption)) | exact look_put (look_put (look_put (by assumption))) | exact look_put (look_put (look_put (look_put (by assumption))))); (exact rfl))
  | ((with_reducible apply r_setL); (first | assumption | exact look_put (by assumption) | exact look_put (look_put (by assumption)) | exact look_put (look_put (look_put (by assumption))) | exact look_put (look_put (look_put (look_put (by assumption))))); (exact rfl))
  | ((with_reducible apply r_mul); (first | exact mulOk_r (by decide) | exact mulOk_l (by decide) | assumption | exact mulOk_r (by omega) | exact mulOk_l (by omega)))
  | ((with_reducible apply r_mod); (first | assumption | decide)) | ((with_reducible apply r_div); (first | assumption | exact ⟨by decide, by decide⟩)) | ((with_reducible apply r_pow); (exact ⟨by decide, by decide, by decide⟩))
  | ((with_reducible apply r_count); (exact rfl); (exact rfl)) | with_reducible refine r_abs ?_ | with_reducible refine r_lenL ?_ | with_reducible refine r_lenT ?_ | with_reducible refine r_listL ?_ | with_reducible refine r_listT ?_ | with_reducible refine r_isL ?_
  | ((with_reducible apply r_aug); (exact rfl))))
local macro_rules | `(tactic| walk_at "g1") => `(tactic| repeat (walk_at "st"))
local macro_rules | `(tactic| walk_at "go") => `(tactic| repeat (first | with_reducible refine r_seq ?_ | walk_at "st"))

def top (i : Nat) : Stmt := PySem.Challenge.pw_calmcuts_k03_whole_parts_there_and_back.main.body.getD i (.Pass ⟨0, 0, 0, 0⟩)
abbrev s_law_bag : Stmt := top 12
abbrev s_law_gcd : Stmt := top 15
abbrev s_law_part : Stmt := top 16
abbrev s_law_get : Stmt := top 13
abbrev s_law_far : Stmt := top 14
abbrev s_law_number : Stmt := top 17
abbrev s_law_some_part : Stmt := top 18
abbrev s_common : Stmt := top 4
abbrev s_part : Stmt := top 5
abbrev s_minus : Stmt := top 7
abbrev s_plus : Stmt := top 6
abbrev s_times : Stmt := top 8
abbrev s_less : Stmt := top 10
abbrev s_over : Stmt := top 9
abbrev s_law : Stmt := top 19
abbrev FnP (K : PySem.W.Frag) (x : Str) (st : Stmt) (f : Addr) (fd : FuncData) : Prop := FunD K x x (defArgs st) (defBody st) (defScope st) [] [] f fd
/-- what the top has written -/
structure Txt (K : PySem.W.Frag) (mg : Str → Option Value) : Type where
  fd_law_bag : FuncData
  F_law_bag : FnP K "_law_bag" s_law_bag (He.ga K "_law_bag") fd_law_bag
  g_law_bag : mg "_law_bag" = some (.ref (He.ga K "_law_bag"))
  fd_law_gcd : FuncData
  F_law_gcd : FnP K "_law_gcd" s_law_gcd (He.ga K "_law_gcd") fd_law_gcd
  g_law_gcd : mg "_law_gcd" = some (.ref (He.ga K "_law_gcd"))
  fd_law_part : FuncData
  F_law_part : FnP K "_law_part" s_law_part (He.ga K "_law_part") fd_law_part
  g_law_part : mg "_law_part" = some (.ref (He.ga K "_law_part"))
  fd_law_get : FuncData
  F_law_get : FnP K "_law_get" s_law_get (He.ga K "_law_get") fd_law_get
  g_law_get : mg "_law_get" = some (.ref (He.ga K "_law_get"))
  fd_law_far : FuncData
  F_law_far : FnP K "_law_far" s_law_far (He.ga K "_law_far") fd_law_far
  g_law_far : mg "_law_far" = some (.ref (He.ga K "_law_far"))
  fd_law_number : FuncData
  F_law_number : FnP K "_law_number" s_law_number (He.ga K "_law_number") fd_law_number
  g_law_number : mg "_law_number" = some (.ref (He.ga K "_law_number"))
  fd_law_some_part : FuncData
  F_law_some_part : FnP K "_law_some_part" s_law_some_part (He.ga K "_law_some_part") fd_law_some_part
  g_law_some_part : mg "_law_some_part" = some (.ref (He.ga K "_law_some_part"))
  fd_common : FuncData
  F_common : FnP K "common" s_common (He.ga K "common") fd_common
  g_common : mg "common" = some (.ref (He.ga K "common"))
  fd_part : FuncData
  F_part : FnP K "part" s_part (He.ga K "part") fd_part
  g_part : mg "part" = some (.ref (He.ga K "part"))
  fd_minus : FuncData
  F_minus : FnP K "minus" s_minus (He.ga K "minus") fd_minus
  g_minus : mg "minus" = some (.ref (He.ga K "minus"))
  fd_plus : FuncData
  F_plus : FnP K "plus" s_plus (He.ga K "plus") fd_plus
  g_plus : mg "plus" = some (.ref (He.ga K "plus"))
  fd_times : FuncData
  F_times : FnP K "times" s_times (He.ga K "times") fd_times
  g_times : mg "times" = some (.ref (He.ga K "times"))
  fd_less : FuncData
  F_less : FnP K "less" s_less (He.ga K "less") fd_less
  g_less : mg "less" = some (.ref (He.ga K "less"))
  fd_over : FuncData
  F_over : FnP K "over" s_over (He.ga K "over") fd_over
  g_over : mg "over" = some (.ref (He.ga K "over"))
  fd_law : FuncData
  F_law : FnP K "law" s_law (He.ga K "law") fd_law
  g_law : mg "law" = some (.ref (He.ga K "law"))
  n_abs : mg "abs" = none
  n_len : mg "len" = none
  n_list : mg "list" = none
  n_range : mg "range" = none
theorem b_law_bag {K : PySem.W.Frag} {mg : Str → Option Value} (T : Txt K mg) : Binds K T.fd_law_bag ["_law_script"] [] := FunD.bindsN T.F_law_bag fun _ _ _ _ _ _ us hl => match us, hl with | [_], _ => rfl
theorem b_law_gcd {K : PySem.W.Frag} {mg : Str → Option Value} (T : Txt K mg) : Binds K T.fd_law_gcd ["_law_one", "_law_other"] [] := FunD.bindsN T.F_law_gcd fun _ _ _ _ _ _ us hl => match us, hl with | [_, _], _ => rfl
theorem b_law_part {K : PySem.W.Frag} {mg : Str → Option Value} (T : Txt K mg) : Binds K T.fd_law_part ["_law_above", "_law_below"] [] := FunD.bindsN T.F_law_part fun _ _ _ _ _ _ us hl => match us, hl with | [_, _], _ => rfl
theorem b_law_get {K : PySem.W.Frag} {mg : Str → Option Value} (T : Txt K mg) : Binds K T.fd_law_get ["_law_bag_here", "_law_most"] [] := FunD.bindsN T.F_law_get fun _ _ _ _ _ _ us hl => match us, hl with | [_, _], _ => rfl
theorem b_law_far {K : PySem.W.Frag} {mg : Str → Option Value} (T : Txt K mg) : Binds K T.fd_law_far ["_law_bag_here", "_law_steps"] [] := FunD.bindsN T.F_law_far fun _ _ _ _ _ _ us hl => match us, hl with | [_, _], _ => rfl
theorem b_law_number {K : PySem.W.Frag} {mg : Str → Option Value} (T : Txt K mg) : Binds K T.fd_law_number ["_law_bag_here"] [] := FunD.bindsN T.F_law_number fun _ _ _ _ _ _ us hl => match us, hl with | [_], _ => rfl
theorem b_law_some_part {K : PySem.W.Frag} {mg : Str → Option Value} (T : Txt K mg) : Binds K T.fd_law_some_part ["_law_bag_here"] [] := FunD.bindsN T.F_law_some_part fun _ _ _ _ _ _ us hl => match us, hl with | [_], _ => rfl
theorem b_common {K : PySem.W.Frag} {mg : Str → Option Value} (T : Txt K mg) : Binds K T.fd_common ["one", "other"] [] := FunD.bindsN T.F_common fun _ _ _ _ _ _ us hl => match us, hl with | [_, _], _ => rfl
theorem b_part {K : PySem.W.Frag} {mg : Str → Option Value} (T : Txt K mg) : Binds K T.fd_part ["above", "below"] [] := FunD.bindsN T.F_part fun _ _ _ _ _ _ us hl => match us, hl with | [_, _], _ => rfl
theorem b_minus {K : PySem.W.Frag} {mg : Str → Option Value} (T : Txt K mg) : Binds K T.fd_minus ["one", "other"] [] := FunD.bindsN T.F_minus fun _ _ _ _ _ _ us hl => match us, hl with | [_, _], _ => rfl
theorem b_plus {K : PySem.W.Frag} {mg : Str → Option Value} (T : Txt K mg) : Binds K T.fd_plus ["one", "other"] [] := FunD.bindsN T.F_plus fun _ _ _ _ _ _ us hl => match us, hl with | [_, _], _ => rfl
theorem b_times {K : PySem.W.Frag} {mg : Str → Option Value} (T : Txt K mg) : Binds K T.fd_times ["one", "other"] [] := FunD.bindsN T.F_times fun _ _ _ _ _ _ us hl => match us, hl with | [_, _], _ => rfl
theorem b_less {K : PySem.W.Frag} {mg : Str → Option Value} (T : Txt K mg) : Binds K T.fd_less ["one", "other"] [] := FunD.bindsN T.F_less fun _ _ _ _ _ _ us hl => match us, hl with | [_, _], _ => rfl
theorem b_over {K : PySem.W.Frag} {mg : Str → Option Value} (T : Txt K mg) : Binds K T.fd_over ["one", "other"] [] := FunD.bindsN T.F_over fun _ _ _ _ _ _ us hl => match us, hl with | [_, _], _ => rfl
theorem b_law {K : PySem.W.Frag} {mg : Str → Option Value} (T : Txt K mg) : Binds K T.fd_law ["_law_script"] [] := FunD.bindsN T.F_law fun _ _ _ _ _ _ us hl => match us, hl with | [_], _ => rfl

/-- what the bag holds: the script's copy, how many were taken, what is left of one, a number that goes round, a count -/
def BagOk (m : MO) : Prop := ∃ (cells : List Int) (k : Nat) (rest seed cnt : Int), m = .lst [.lst (cells.map D.int), .int (k : Int), .int rest, .int seed, .int cnt] ∧ 0 ≤ rest ∧ 0 ≤ seed ∧ seed < 2147483629
def BagIn (p : Addr) (cs : Cs) : Prop := ∃ b, look p cs = some b ∧ BagOk b
theorem BagIn.put {p : Addr} {cs : Cs} {b : MO} (h : BagIn p cs) (hb : BagOk b) : BagIn p (put p b cs) := by
  obtain ⟨b0, e, _⟩ := h
  exact ⟨b, look_put e, hb⟩
structure BagStep (p : Addr) (cs cs' : Cs) : Prop where
  bag : BagIn p cs'
  eq : ∃ b, cs' = put p b cs
theorem BagStep.trans {p : Addr} {c0 c1 c2 : Cs} (a : BagStep p c0 c1) (b : BagStep p c1 c2) : BagStep p c0 c2 := by
  obtain ⟨b1, e1⟩ := a.eq
  obtain ⟨b2, e2⟩ := b.eq
  exact ⟨b.bag, b2, by rw [e2, e1, put_put]⟩
theorem BagStep.refl {p : Addr} {cs : Cs} (h : BagIn p cs) : BagStep p cs cs := by
  obtain ⟨b, e, _⟩ := id h
  exact ⟨h, b, (put_look e).symm⟩
theorem BagStep.look {p q : Addr} {cs cs' : Cs} (a : BagStep p cs cs') (h : q ≠ p) : look q cs' = look q cs := by
  obtain ⟨b, e⟩ := a.eq
  rw [e, look_put_ne h]
def sp_law_bag : DSp := fun ds cs P _ => ∃ ns : List Int, ds = [.lst (ns.map D.int)] ∧ ∀ p b, p ∉ adr cs → BagOk b → P (.opq (.ref p)) ((p, b) :: cs)

theorem sc_law_bag : FnScope ["_law_script"] ["_law_script"] (defScope s_law_bag) := ⟨rfl, rfl, rfl, by decide +kernel, rfl, by decide +kernel, by decide +kernel⟩
theorem ok_law_bag {P : Program} {w : World} {K : PySem.W.Frag} {mg : Str → Option Value} {base : Heap} (T : Txt K mg) : FnOk P w K mg base (L2.CX P w) 1 (He.ga K "_law_bag") T.fd_law_bag ["_law_script"] (spL K 1 sp_law_bag) := by
  apply ok_def (k := 0) T.F_law_bag sc_law_bag
  case hb =>
    intro cdv A outer s H E hr
    exact (dss_one (ds_ret (d_lstM (da_cons (d_callTy call_list_of adq_list rfl T.n_list (by decide +kernel) (da_cons (d_slice sl_list adq_slL (d_var 0) do_none (do_some d_int)) da_nil)) (da_cons d_int (da_cons d_int (da_cons (d_add d_int (d_callB call_len_seq adq_len rfl T.n_len (by decide +kernel) (da_cons (d_slice sl_list adq_slL (d_var 0) do_none (do_some d_int)) da_nil))) (da_cons d_int da_nil))))))))
  case hsp =>
    skip
    rintro ds cs Q Z ⟨ns, rfl, h⟩ _
    show ∀ p, p ∉ adr cs → Q (.opq (.ref p)) ((p, .lst [.lst (DL.cutD (ns.map D.int) none (some 63)), .int 0, .int 0, .int (9103 + ((DL.cutD (ns.map D.int) none (some 63)).length : Int)), .int 0]) :: cs)
    intro p hp
    have e : DL.cutD (ns.map D.int) none (some 63) = (ns.take (min 63 ns.length)).map D.int := by
      unfold DL.cutD
      simp [HT.sIx, List.map_take]
    have l : (DL.cutD (ns.map D.int) none (some 63)).length ≤ 63 := by
      rw [e, List.length_map, List.length_take]; omega
    refine h p _ hp ⟨ns.take (min 63 ns.length), 0, 0, 9103 + ((DL.cutD (ns.map D.int) none (some 63)).length : Int), 0, by rw [← e] <;> rfl, by omega, by omega, by omega⟩


def sp_law_gcd : DSp := fun ds cs P _ => ∃ a b : Nat, ds = [.int (a : Int), .int (b : Int)] ∧ P (.int (Nat.gcd a b : Int)) cs

theorem sc_law_gcd : FnScope ["_law_one", "_law_other"] ["_law_one", "_law_other"] (defScope s_law_gcd) := ⟨rfl, rfl, rfl, by decide +kernel, rfl, by decide +kernel, by decide +kernel⟩
theorem ok_law_gcd {P : Program} {w : World} {K : PySem.W.Frag} {mg : Str → Option Value} {base : Heap} (T : Txt K mg) : FnOk P w K mg base (L2.CX P w) 1 (He.ga K "_law_gcd") T.fd_law_gcd ["_law_one", "_law_other"] (spL K 2 sp_law_gcd) := by
  apply ok_def (k := 0) T.F_law_gcd sc_law_gcd
  case hb =>
    intro cdv A outer s H E hr
    exact (dss_cons (ds_while passD (dt_gt (d_var 1) d_int) (dss_one (ds_par (i := 0) (j := 1) rfl sc_law_gcd.nd rfl rfl (by decide) rfl rfl (da_cons (d_var 1) (da_cons (d_mod (d_var 0) (d_var 1)) da_nil)))))
      (dss_one (ds_ret (d_var 0))))
  case hsp =>
    skip
    rintro ds cs Q Z ⟨a, b, rfl, h⟩ _
    show (_ : WS) (finD Q Z) [some _, some _] cs
    walk_at "go"
    refine r_while (fun m ρ cs' => ∃ a' b' : Nat, ρ = [some (.int (a' : Int)), some (.int (b' : Int))] ∧ m = b' ∧ cs' = cs ∧ Nat.gcd a' b' = Nat.gcd a b) ⟨b, a, b, rfl, rfl, rfl, rfl⟩ ?_
    rintro m ρ cs' N ⟨a', b', rfl, hm, rfl, hg⟩ hN
    walk_at "go"
    refine ⟨fun hk => ?_, fun hk => ?_⟩
    · have hb : (b' : Int) ≠ 0 := by have := decT hk; omega
      have hb0 : (0 : Int) < b' := by omega
      walk_at "go"
      refine hN (a' % b') _ _ (by rw [hm]; exact Nat.mod_lt _ (by omega)) ⟨b', a' % b', rfl, rfl, rfl, ?_⟩
      rw [← hg, Nat.gcd_comm b', ← Nat.gcd_rec, Nat.gcd_comm]
    · have hb : (b' : Int) = 0 := by have := decF hk; omega
      have hb0 : b' = 0 := by omega
      rw [hb0]
      walk_at "go"
      rw [← hg, hb0, Nat.gcd_zero_right] at h
      exact h


def sp_law_part : DSp := fun ds cs P _ => ∃ a b : Int, ds = [.int a, .int b] ∧ b ≠ 0 ∧ b.natAbs < 2 ^ 9000 ∧ P (dR (Rat.divInt a b)) cs

theorem sc_law_part : FnScope ["_law_above", "_law_below", "_law_by"] ["_law_above", "_law_below"] (defScope s_law_part) := ⟨rfl, rfl, rfl, by decide +kernel, rfl, by decide +kernel, by decide +kernel⟩
theorem ok_law_part {P : Program} {w : World} {K : PySem.W.Frag} {mg : Str → Option Value} {base : Heap} (T : Txt K mg) : FnOk P w K mg base (L2.CX P w) 2 (He.ga K "_law_part") T.fd_law_part ["_law_above", "_law_below"] (spL K 2 sp_law_part) := by
  apply ok_def (k := 1) T.F_law_part sc_law_part
  case hb =>
    intro cdv A outer s H E hr
    exact (dss_cons (ds_if (dt_lt (d_var 1) d_int) (dss_one (ds_par (i := 0) (j := 1) rfl sc_law_part.nd rfl rfl (by decide) rfl rfl (da_cons (d_sub d_int (d_var 0)) (da_cons (d_sub d_int (d_var 1)) da_nil)))) dss_nil)
      (dss_cons (ds_set (i := 2) sc_law_part.nd rfl (Or.inl rfl) (d_callN (ok_law_gcd T) (hr.mono (by decide)) rfl T.g_law_gcd T.F_law_gcd.kp (b_law_gcd T) takesD (da_cons (d_callB call_abs adq_abs rfl T.n_abs (by decide +kernel) (da_cons (d_var 0) da_nil)) (da_cons (d_var 1) da_nil))))
      (dss_one (ds_ret (d_tup (da_cons (d_fdiv (d_var 0) (d_var 2)) (da_cons (d_fdiv (d_var 1) (d_var 2)) da_nil)))))))
  case hsp =>
    skip
    rintro ds cs Q Z ⟨a, b, rfl, hb, hs, h⟩ _
    show (_ : WS) (finD Q Z) [some _, some _, none] cs
    refine r_key (N := fun ρ' cs' => ∃ a' b' : Int, ρ' = [some (.int a'), some (.int b'), none] ∧ cs' = cs ∧ 0 < b' ∧ b'.natAbs < 2 ^ 9000 ∧ Rat.divInt a' b' = Rat.divInt a b) ?_ (fun nx key => ?_)
    · rintro ρ' cs' ⟨a', b', rfl, rfl, hp, hz, he⟩
      walk_at "go"
      rw [abs_nat]
      have hn : b' = (b'.natAbs : Int) := by omega
      refine ⟨a'.natAbs, b'.natAbs, by rw [← hn], ?_⟩
      have g := gcd_ok (a := a'.natAbs) (b := b'.natAbs) (by omega) hz
      obtain ⟨e1, e2⟩ := part_pos a' b' hp
      walk_at "go"
      show Q (.tup [.int (a' / _), .int (b' / _)]) cs'
      rw [e1, e2, he]
      exact h
    · walk_at "go"
      refine ⟨fun hk2 => ?_, fun hk2 => ?_⟩
      · have hlt := decT hk2
        walk_at "go"
        exact key _ _ ⟨0 - a, 0 - b, rfl, rfl, by omega, by rw [Int.zero_sub, Int.natAbs_neg]; exact hs, by rw [Int.zero_sub, Int.zero_sub]; exact part_neg a b⟩
      · have hlt := decF hk2
        walk_at "go"
        exact key _ _ ⟨a, b, rfl, rfl, by omega, hs, rfl⟩


def sp_law_get : DSp := fun ds cs P _ => ∃ (p : Addr) (most : Int), ds = [.opq (.ref p), .int most] ∧ 0 < most ∧ most < 2 ^ 60 ∧ BagIn p cs ∧ ∀ r cs', 0 ≤ r → r < most → BagStep p cs cs' → P (.int r) cs'

theorem sc_law_get : FnScope ["_law_bag_here", "_law_most", "_law_cell", "_law_got", "_law_before"] ["_law_bag_here", "_law_most"] (defScope s_law_get) := ⟨rfl, rfl, rfl, by decide +kernel, rfl, by decide +kernel, by decide +kernel⟩
theorem ok_law_get {P : Program} {w : World} {K : PySem.W.Frag} {mg : Str → Option Value} {base : Heap} (T : Txt K mg) : FnOk P w K mg base (L2.CX P w) 1 (He.ga K "_law_get") T.fd_law_get ["_law_bag_here", "_law_most"] (spL K 2 sp_law_get) := by
  apply ok_def (k := 0) T.F_law_get sc_law_get
  case hb =>
    intro cdv A outer s H E hr
    exact (dss_cons (ds_if (dt_w (dw_and (dt_lt (d_ixM (d_var 0) d_int) (d_var 1)) (dw_and1 (dt_lt (d_ixM (d_var 0) d_int) (d_callB call_len_seq adq_len rfl T.n_len (by decide +kernel) (da_cons (d_ixM (d_var 0) d_int) da_nil)))))) (dss_cons (ds_set (i := 2) sc_law_get.nd rfl (Or.inl rfl) (d_sub_ix (d_ixM (d_var 0) d_int) (d_ixM (d_var 0) d_int)))
      (dss_cons (ds_setix (d_add (d_ixM (d_var 0) d_int) d_int) (d_var 0) d_int)
      (dss_cons (ds_setix (d_if (dt_ge (d_var 2) (d_pow d_int d_int)) (d_sub (d_var 2) (d_pow d_int d_int)) d_int) (d_var 0) d_int)
      (dss_one (ds_setix (d_mod (d_add (d_add (d_mul (d_ixM (d_var 0) d_int) d_int) (d_mul (d_var 2) d_int)) (d_mul d_int (d_ixM (d_var 0) d_int))) d_int) (d_var 0) d_int))))) dss_nil)
      (dss_cons (ds_if (dt_ge (d_ixM (d_var 0) d_int) (d_var 1)) (dss_cons (ds_set (i := 3) sc_law_get.nd rfl (Or.inl rfl) (d_mod (d_ixM (d_var 0) d_int) (d_var 1)))
      (dss_cons (ds_setix (d_fdiv (d_ixM (d_var 0) d_int) (d_var 1)) (d_var 0) d_int)
      (dss_one (ds_ret (d_var 3))))) dss_nil)
      (dss_cons (ds_setix (d_add (d_ixM (d_var 0) d_int) d_int) (d_var 0) d_int)
      (dss_cons (ds_set (i := 4) sc_law_get.nd rfl (Or.inl rfl) (d_ixM (d_var 0) d_int))
      (dss_cons (ds_setix (d_mod (d_add (d_add (d_add (d_mul (d_var 4) (d_var 4)) (d_mul d_int (d_var 4))) (d_mul d_int (d_ixM (d_var 0) d_int))) d_int) d_int) (d_var 0) d_int)
      (dss_one (ds_ret (d_mod (d_add (d_fdiv (d_ixM (d_var 0) d_int) d_int) (d_mul (d_fdiv (d_var 4) d_int) d_int)) (d_var 1)))))))))
  case hsp =>
    skip
    rintro ds cs Q Z ⟨p, most, rfl, m0, m1, ⟨b, hl, cells, k, rest, seed, cnt, rfl, h0, h1, h2⟩, hh⟩ _
    have h : ∀ r b, 0 ≤ r → r < most → BagOk b → Q (.int r) (put p b cs) := fun r b x1 x2 x3 => hh r _ x1 x2 ⟨⟨b, look_put hl, x3⟩, b, rfl⟩
    show (_ : WS) (finD Q Z) [some _, some _, none, none, none] cs
    have dv := divOk m0 m1
    refine r_key (N := fun ρ' cs' => ∃ (c : Option D) (k1 : Nat) (rest1 seed1 : Int), ρ' = [some (.opq (.ref p)), some (.int most), c, none, none] ∧ look p cs' = some (.lst [.lst (cells.map D.int), .int (k1 : Int), .int rest1, .int seed1, .int cnt]) ∧ 0 ≤ rest1 ∧ 0 ≤ seed1 ∧ seed1 < 2147483629 ∧ ∀ r b, 0 ≤ r → r < most → BagOk b → Q (.int r) (put p b cs')) ?_ (fun nx key => ?_)
    · rintro ρ' cs' ⟨c, k1, rest1, seed1, rfl, hl', a0, a1, a2, hq⟩
      walk_at "go"
      refine ⟨fun hk => ?_, fun hk => ?_⟩
      · walk_at "go"
        exact hq _ _ (Int.emod_nonneg _ (by omega)) (Int.emod_lt_of_pos _ m0) ⟨cells, k1, rest1 / most, seed1, cnt, rfl, Int.ediv_nonneg a0 (by omega), a1, a2⟩
      · have hs : seed1.natAbs < 2 ^ 64 := by omega
        walk_at "go"
        show Q _ (put p _ (put p _ cs'))
        rw [put_put]
        refine hq _ _ (Int.emod_nonneg _ (by omega)) (Int.emod_lt_of_pos _ m0) ⟨cells, k1, rest1, _, cnt + 1, rfl, a0, Int.emod_nonneg _ (by decide), Int.emod_lt_of_pos _ (by decide)⟩
    · walk_at "go"
      refine ⟨fun hk => ?_, fun hk => ?_⟩
      · walk_at "go"
        refine ⟨fun hk2 => ?_, fun hk2 => ?_⟩
        · have hlen : (k : Int) < (cells.length : Int) := by simpa using decT hk2
          have hat : atD (cells.map D.int) (k : Int) = some (.int (cells[k]'(by omega))) := by
            refine atI_nat ?_
            rw [List.getElem?_map, List.getElem?_eq_getElem (by omega)]
            rfl
          walk_at "go"
          refine r_ixL hat ?_
          generalize cells[k]'(by omega) = cell
          walk_at "go"
          refine ⟨fun hk3 => ?_, fun hk3 => ?_⟩
          · have hc := decT hk3
            walk_at "go"
            refine key _ _ ⟨_, k + 1, _, _, rfl, look_put (look_put (look_put hl)), ?_, Int.emod_nonneg _ (by decide), Int.emod_lt_of_pos _ (by decide), fun r b x1 x2 x3 => ?_⟩
            · show (0 : Int) ≤ cell - 10 ^ 18
              have : (10 : Int) ^ 18 ≤ cell := hc
              omega
            · rw [put_put, put_put, put_put]
              exact h r b x1 x2 x3
          · walk_at "go"
            refine key _ _ ⟨_, k + 1, _, _, rfl, look_put (look_put (look_put hl)), Int.le_refl _, Int.emod_nonneg _ (by decide), Int.emod_lt_of_pos _ (by decide), fun r b x1 x2 x3 => ?_⟩
            rw [put_put, put_put, put_put]
            exact h r b x1 x2 x3
        · walk_at "go"
          exact key _ _ ⟨none, k, rest, seed, rfl, hl, h0, h1, h2, h⟩
      · walk_at "go"
        exact key _ _ ⟨none, k, rest, seed, rfl, hl, h0, h1, h2, h⟩


def sp_law_far : DSp := fun ds cs P _ => ∃ (p : Addr) (n : Nat), ds = [.opq (.ref p), .int (n : Int)] ∧ n ≤ 20 ∧ BagIn p cs ∧ ∀ r cs', 0 ≤ r → r < 1000 ^ n → BagStep p cs cs' → P (.int r) cs'

theorem sc_law_far : FnScope ["_law_bag_here", "_law_steps", "_law_found", "_law_step"] ["_law_bag_here", "_law_steps"] (defScope s_law_far) := ⟨rfl, rfl, rfl, by decide +kernel, rfl, by decide +kernel, by decide +kernel⟩
theorem ok_law_far {P : Program} {w : World} {K : PySem.W.Frag} {mg : Str → Option Value} {base : Heap} (T : Txt K mg) : FnOk P w K mg base (L2.CX P w) 2 (He.ga K "_law_far") T.fd_law_far ["_law_bag_here", "_law_steps"] (spL K 2 sp_law_far) := by
  apply ok_def (k := 1) T.F_law_far sc_law_far
  case hb =>
    intro cdv A outer s H E hr
    exact (dss_cons (ds_set (i := 2) sc_law_far.nd rfl (Or.inl rfl) d_int)
      (dss_cons (ds_for passD rfl (di_range1 rfl T.n_range (da_cons (d_var 1) da_nil)) (dg_name (i := 3) sc_law_far.nd rfl (Or.inl rfl)) (dss_one (ds_set (i := 2) sc_law_far.nd rfl (Or.inl rfl) (d_add (d_mul (d_var 2) d_int) (d_callN (ok_law_get T) (hr.mono (by decide)) rfl T.g_law_get T.F_law_get.kp (b_law_get T) takesD (da_cons (d_var 0) (da_cons d_int da_nil)))))))
      (dss_one (ds_ret (d_var 2)))))
  case hsp =>
    skip
    rintro ds cs Q Z ⟨p, n, rfl, hn, hb, h⟩ _
    show (_ : WS) (finD Q Z) [some _, some _, none, none] cs
    walk_at "go"
    refine ⟨⟨by omega, by omega⟩, ?_⟩
    refine r_loop0 (fun i ρ cs' => ∃ (r : Int) (c : Option D), ρ = [some (.opq (.ref p)), some (.int (n : Int)), some (.int r), c] ∧ 0 ≤ r ∧ r < 1000 ^ i ∧ BagStep p cs cs') ⟨0, none, rfl, by decide, by decide, BagStep.refl hb⟩ ?_ ?_
    · rintro i d ρ cs' N hd ⟨r, c, rfl, r0, r1, st⟩ hN
      obtain ⟨rfl, hi⟩ := rng_get hd
      walk_at "go"
      refine ⟨p, 1000, rfl, by decide, by decide, st.bag, fun g cs2 g0 g1 st2 => ?_⟩
      walk_at "go"
      refine hN _ _ ⟨_, _, rfl, by omega, ?_, st.trans st2⟩
      rw [Int.pow_succ]; omega
    · rintro ρ cs' ⟨r, c, rfl, r0, r1, st⟩
      walk_at "go"
      rw [rng_len, Int.toNat_natCast] at r1
      exact h _ _ r0 r1 st


theorem p1000 {n : Nat} (h : n ≤ 20) : (1000 : Int) ^ n ≤ 1000 ^ 20 := by
  exact_mod_cast Nat.pow_le_pow_right (n := 1000) (by decide) h
def sp_law_number : DSp := fun ds cs P _ => ∃ (p : Addr), ds = [.opq (.ref p)] ∧ BagIn p cs ∧ ∀ (r : Int) cs', r.natAbs < 2 ^ 200 → BagStep p cs cs' → P (.int r) cs'

theorem sc_law_number : FnScope ["_law_bag_here", "_law_kind"] ["_law_bag_here"] (defScope s_law_number) := ⟨rfl, rfl, rfl, by decide +kernel, rfl, by decide +kernel, by decide +kernel⟩
theorem ok_law_number {P : Program} {w : World} {K : PySem.W.Frag} {mg : Str → Option Value} {base : Heap} (T : Txt K mg) : FnOk P w K mg base (L2.CX P w) 3 (He.ga K "_law_number") T.fd_law_number ["_law_bag_here"] (spL K 1 sp_law_number) := by
  apply ok_def (k := 2) T.F_law_number sc_law_number
  case hb =>
    intro cdv A outer s H E hr
    exact (dss_cons (ds_set (i := 1) sc_law_number.nd rfl (Or.inl rfl) (d_callN (ok_law_get T) (hr.mono (by decide)) rfl T.g_law_get T.F_law_get.kp (b_law_get T) takesD (da_cons (d_var 0) (da_cons d_int da_nil))))
      (dss_cons (ds_if (dt_lt (d_var 1) d_int) (dss_one (ds_ret (d_sub (d_callN (ok_law_get T) (hr.mono (by decide)) rfl T.g_law_get T.F_law_get.kp (b_law_get T) takesD (da_cons (d_var 0) (da_cons d_int da_nil))) d_int))) dss_nil)
      (dss_cons (ds_if (dt_eq hr.units (d_var 1) d_int) (dss_one (ds_ret (d_sub (d_callN (ok_law_get T) (hr.mono (by decide)) rfl T.g_law_get T.F_law_get.kp (b_law_get T) takesD (da_cons (d_var 0) (da_cons d_int da_nil))) d_int))) dss_nil)
      (dss_one (ds_ret (d_mul (d_add (d_callN (ok_law_far T) (hr.mono (by decide)) rfl T.g_law_far T.F_law_far.kp (b_law_far T) takesD (da_cons (d_var 0) (da_cons (d_sub_ix (d_lst (da_cons d_int (da_cons d_int da_nil))) (d_sub (d_var 1) d_int)) da_nil))) d_int) (d_sub d_int (d_mul d_int (d_callN (ok_law_get T) (hr.mono (by decide)) rfl T.g_law_get T.F_law_get.kp (b_law_get T) takesD (da_cons (d_var 0) (da_cons d_int da_nil)))))))))))
  case hsp =>
    skip
    rintro ds cs Q Z ⟨p, rfl, hb, h⟩ _
    show (_ : WS) (finD Q Z) [some _, none] cs
    walk_at "go"
    refine ⟨p, 5, rfl, by decide, by decide, hb, fun k cs1 k0 k1 st1 => ?_⟩
    walk_at "go"
    refine ⟨fun hk => ?_, fun hk => ?_⟩
    · walk_at "go"
      refine ⟨p, 9, rfl, by decide, by decide, st1.bag, fun g cs2 g0 g1 st2 => ?_⟩
      walk_at "go"
      exact h _ _ (by omega) (st1.trans st2)
    · walk_at "go"
      refine ⟨fun hk2 => ?_, fun hk2 => ?_⟩
      · walk_at "go"
        refine ⟨p, 2001, rfl, by decide, by decide, st1.bag, fun g cs2 g0 g1 st2 => ?_⟩
        walk_at "go"
        exact h _ _ (by omega) (st1.trans st2)
      · have a1 := decF hk
        have a2 := decF hk2
        have key : ∃ n : Nat, n ≤ 20 ∧ atD [.int 3, .int 20] (k - 3) = some (.int (n : Int)) := by
          rcases (show k = 3 ∨ k = 4 by omega) with e | e
          · exact ⟨3, by decide, by rw [e] <;> rfl⟩
          · exact ⟨20, by decide, by rw [e] <;> rfl⟩
        obtain ⟨n, hn, e⟩ := key
        walk_at "go"
        refine r_ixL e ?_
        walk_at "go"
        refine ⟨p, n, rfl, hn, st1.bag, fun r cs2 r0 r1 st2 => ?_⟩
        have r2 : r < 1000 ^ 20 := Int.lt_of_lt_of_le r1 (p1000 hn)
        walk_at "go"
        refine ⟨p, 2, rfl, by decide, by decide, st2.bag, fun g cs3 g0 g1 st3 => ?_⟩
        walk_at "go"
        refine h _ _ ?_ ((st1.trans st2).trans st3)
        rcases (show g = 0 ∨ g = 1 by omega) with e | e
        · rw [e]; omega
        · rw [e]; omega


def sp_law_some_part : DSp := fun ds cs P _ => ∃ (p : Addr), ds = [.opq (.ref p)] ∧ BagIn p cs ∧ ∀ (r : Rat) cs', Sz 201 r → BagStep p cs cs' → P (dR r) cs'

theorem sc_law_some_part : FnScope ["_law_bag_here", "_law_below"] ["_law_bag_here"] (defScope s_law_some_part) := ⟨rfl, rfl, rfl, by decide +kernel, rfl, by decide +kernel, by decide +kernel⟩
theorem ok_law_some_part {P : Program} {w : World} {K : PySem.W.Frag} {mg : Str → Option Value} {base : Heap} (T : Txt K mg) : FnOk P w K mg base (L2.CX P w) 4 (He.ga K "_law_some_part") T.fd_law_some_part ["_law_bag_here"] (spL K 1 sp_law_some_part) := by
  apply ok_def (k := 3) T.F_law_some_part sc_law_some_part
  case hb =>
    intro cdv A outer s H E hr
    exact (dss_cons (ds_set (i := 1) sc_law_some_part.nd rfl (Or.inl rfl) (d_add (d_callB call_abs adq_abs rfl T.n_abs (by decide +kernel) (da_cons (d_callN (ok_law_number T) (hr.mono (by decide)) rfl T.g_law_number T.F_law_number.kp (b_law_number T) takesD (da_cons (d_var 0) da_nil)) da_nil)) d_int))
      (dss_one (ds_ret (d_callN (ok_law_part T) (hr.mono (by decide)) rfl T.g_law_part T.F_law_part.kp (b_law_part T) takesD (da_cons (d_callN (ok_law_number T) (hr.mono (by decide)) rfl T.g_law_number T.F_law_number.kp (b_law_number T) takesD (da_cons (d_var 0) da_nil)) (da_cons (d_if (dt_gt (d_callN (ok_law_get T) (hr.mono (by decide)) rfl T.g_law_get T.F_law_get.kp (b_law_get T) takesD (da_cons (d_var 0) (da_cons d_int da_nil))) d_int) (d_var 1) d_int) da_nil))))))
  case hsp =>
    skip
    rintro ds cs Q Z ⟨p, rfl, hb, h⟩ _
    show (_ : WS) (finD Q Z) [some _, none] cs
    walk_at "go"
    refine ⟨p, rfl, hb, fun a cs1 a1 st1 => ?_⟩
    walk_at "go"
    refine ⟨p, rfl, st1.bag, fun b cs2 b1 st2 => ?_⟩
    walk_at "go"
    refine ⟨p, 3, rfl, by decide, by decide, st2.bag, fun g cs3 g0 g1 st3 => ?_⟩
    walk_at "go"
    have st := (st1.trans st2).trans st3
    have big : ∀ c : Int, 0 < c → c < 2 ^ 201 → b.natAbs < 2 ^ 201 ∧ c.natAbs < 2 ^ 201 := fun c h1 h2 => ⟨by omega, by omega⟩
    have fin : ∀ c : Int, 0 < c → c < 2 ^ 201 → sp_law_part [.int b, .int c] cs3 Q (fun x cs1 => Z x cs1) := fun c h1 h2 => by
      obtain ⟨e1, e2⟩ := big c h1 h2
      exact ⟨b, c, rfl, by omega, Nat.lt_of_lt_of_le e2 (Nat.pow_le_pow_right (by decide) (by decide)), h _ _ (Sz.divInt (n := 201) (m := 201) (by omega) e1 e2 (Nat.le_refl _)) st⟩
    refine ⟨fun hk => ?_, fun hk => ?_⟩
    · walk_at "go"
      exact fin _ (by split <;> omega) (by split <;> omega)
    · walk_at "go"
      exact fin 1 (by decide) (by decide)


def sp_common : DSp := fun ds cs P _ => ∃ a b : Nat, ds = [.int (a : Int), .int (b : Int)] ∧ P (.int (Nat.gcd a b : Int)) cs

theorem sc_common : FnScope ["one", "other"] ["one", "other"] (defScope s_common) := ⟨rfl, rfl, rfl, by decide +kernel, rfl, by decide +kernel, by decide +kernel⟩
theorem ok_common {P : Program} {w : World} {K : PySem.W.Frag} {mg : Str → Option Value} {base : Heap} (T : Txt K mg) : FnOk P w K mg base (L2.CX P w) 1 (He.ga K "common") T.fd_common ["one", "other"] (spL K 2 sp_common) := by
  apply ok_def (k := 0) T.F_common sc_common
  case hb =>
    intro cdv A outer s H E hr
    exact (dss_cons (ds_while passD (dt_ne hr.units (d_var 1) d_int) (dss_one (ds_par (i := 0) (j := 1) rfl sc_common.nd rfl rfl (by decide) rfl rfl (da_cons (d_var 1) (da_cons (d_mod (d_var 0) (d_var 1)) da_nil)))))
      (dss_one (ds_ret (d_var 0))))
  case hsp =>
    skip
    rintro ds cs Q Z ⟨a, b, rfl, h⟩ _
    show (_ : WS) (finD Q Z) [some _, some _] cs
    walk_at "go"
    refine r_while (fun m ρ cs' => ∃ a' b' : Nat, ρ = [some (.int (a' : Int)), some (.int (b' : Int))] ∧ m = b' ∧ cs' = cs ∧ Nat.gcd a' b' = Nat.gcd a b) ⟨b, a, b, rfl, rfl, rfl, rfl⟩ ?_
    rintro m ρ cs' N ⟨a', b', rfl, hm, rfl, hg⟩ hN
    walk_at "go"
    refine ⟨fun hk => ?_, fun hk => ?_⟩
    · have hb : (b' : Int) ≠ 0 := ndecT hk
      have hb0 : (0 : Int) < b' := by omega
      walk_at "go"
      refine hN (a' % b') _ _ (by rw [hm]; exact Nat.mod_lt _ (by omega)) ⟨b', a' % b', rfl, rfl, rfl, ?_⟩
      rw [← hg, Nat.gcd_comm b', ← Nat.gcd_rec, Nat.gcd_comm]
    · have hb : (b' : Int) = 0 := ndecF hk
      have hb0 : b' = 0 := by omega
      rw [hb0]
      walk_at "go"
      rw [← hg, hb0, Nat.gcd_zero_right] at h
      exact h


def sp_part : DSp := fun ds cs P _ => ∃ a b : Int, ds = [.int a, .int b] ∧ b ≠ 0 ∧ b.natAbs < 2 ^ 9000 ∧ P (dR (Rat.divInt a b)) cs

theorem sc_part : FnScope ["above", "below", "by"] ["above", "below"] (defScope s_part) := ⟨rfl, rfl, rfl, by decide +kernel, rfl, by decide +kernel, by decide +kernel⟩
theorem ok_part {P : Program} {w : World} {K : PySem.W.Frag} {mg : Str → Option Value} {base : Heap} (T : Txt K mg) : FnOk P w K mg base (L2.CX P w) 2 (He.ga K "part") T.fd_part ["above", "below"] (spL K 2 sp_part) := by
  apply ok_def (k := 1) T.F_part sc_part
  case hb =>
    intro cdv A outer s H E hr
    exact (dss_cons (ds_if (dt_eq hr.units (d_var 1) d_int) (dss_one ds_never) dss_nil)
      (dss_cons (ds_if (dt_lt (d_var 1) d_int) (dss_one (ds_par (i := 0) (j := 1) rfl sc_part.nd rfl rfl (by decide) rfl rfl (da_cons (d_neg (d_var 0)) (da_cons (d_neg (d_var 1)) da_nil)))) dss_nil)
      (dss_cons (ds_set (i := 2) sc_part.nd rfl (Or.inl rfl) (d_callN (ok_common T) (hr.mono (by decide)) rfl T.g_common T.F_common.kp (b_common T) takesD (da_cons (d_callB call_abs adq_abs rfl T.n_abs (by decide +kernel) (da_cons (d_var 0) da_nil)) (da_cons (d_var 1) da_nil))))
      (dss_one (ds_ret (d_tup (da_cons (d_fdiv (d_var 0) (d_var 2)) (da_cons (d_fdiv (d_var 1) (d_var 2)) da_nil))))))))
  case hsp =>
    skip
    rintro ds cs Q Z ⟨a, b, rfl, hb, hs, h⟩ _
    show (_ : WS) (finD Q Z) [some _, some _, none] cs
    walk_at "go"
    refine ⟨fun hk => absurd (decT hk) hb, fun hk => ?_⟩
    walk_at "g1"
    refine r_key (N := fun ρ' cs' => ∃ a' b' : Int, ρ' = [some (.int a'), some (.int b'), none] ∧ cs' = cs ∧ 0 < b' ∧ b'.natAbs < 2 ^ 9000 ∧ Rat.divInt a' b' = Rat.divInt a b) ?_ (fun nx key => ?_)
    · rintro ρ' cs' ⟨a', b', rfl, rfl, hp, hz, he⟩
      walk_at "go"
      rw [abs_nat]
      have hn : b' = (b'.natAbs : Int) := by omega
      refine ⟨a'.natAbs, b'.natAbs, by rw [← hn], ?_⟩
      have g := gcd_ok (a := a'.natAbs) (b := b'.natAbs) (by omega) hz
      obtain ⟨e1, e2⟩ := part_pos a' b' hp
      walk_at "go"
      show Q (.tup [.int (a' / _), .int (b' / _)]) cs'
      rw [e1, e2, he]
      exact h
    · walk_at "go"
      refine ⟨fun hk2 => ?_, fun hk2 => ?_⟩
      · have hlt := decT hk2
        walk_at "go"
        exact key _ _ ⟨-a, -b, rfl, rfl, by omega, by rw [Int.natAbs_neg]; exact hs, part_neg a b⟩
      · have hlt := decF hk2
        walk_at "go"
        exact key _ _ ⟨a, b, rfl, rfl, by omega, hs, rfl⟩


def sp_minus : DSp := fun ds cs P _ => ∃ x y : Rat, ds = [dR x, dR y] ∧ Sz 4000 x ∧ Sz 4000 y ∧ P (dR (x - y)) cs

theorem sc_minus : FnScope ["one", "other"] ["one", "other"] (defScope s_minus) := ⟨rfl, rfl, rfl, by decide +kernel, rfl, by decide +kernel, by decide +kernel⟩
theorem ok_minus {P : Program} {w : World} {K : PySem.W.Frag} {mg : Str → Option Value} {base : Heap} (T : Txt K mg) : FnOk P w K mg base (L2.CX P w) 3 (He.ga K "minus") T.fd_minus ["one", "other"] (spL K 2 sp_minus) := by
  apply ok_def (k := 2) T.F_minus sc_minus
  case hb =>
    intro cdv A outer s H E hr
    exact (dss_one (ds_ret (d_callN (ok_part T) (hr.mono (by decide)) rfl T.g_part T.F_part.kp (b_part T) takesD (da_cons (d_sub (d_mul (d_sub_ix (d_var 0) d_int) (d_sub_ix (d_var 1) d_int)) (d_mul (d_sub_ix (d_var 1) d_int) (d_sub_ix (d_var 0) d_int))) (da_cons (d_mul (d_sub_ix (d_var 0) d_int) (d_sub_ix (d_var 1) d_int)) da_nil)))))
  case hsp =>
    skip
    rintro ds cs Q Z ⟨x, y, rfl, hx, hy, h⟩ _
    show (_ : WS) (finD Q Z) [some _, some _] cs
    have m1 := hx.nd hy
    have m2 := hy.nd hx
    have m3 := hx.dd hy
    have m4 := hx.nn hy
    walk_at "go"
    exact ⟨_, _, rfl, Int.mul_ne_zero (den_ne x) (den_ne y), dd_ok hx hy (by decide), by rw [divInt_sub]; exact h⟩


def sp_plus : DSp := fun ds cs P _ => ∃ x y : Rat, ds = [dR x, dR y] ∧ Sz 4000 x ∧ Sz 4000 y ∧ P (dR (x + y)) cs

theorem sc_plus : FnScope ["one", "other"] ["one", "other"] (defScope s_plus) := ⟨rfl, rfl, rfl, by decide +kernel, rfl, by decide +kernel, by decide +kernel⟩
theorem ok_plus {P : Program} {w : World} {K : PySem.W.Frag} {mg : Str → Option Value} {base : Heap} (T : Txt K mg) : FnOk P w K mg base (L2.CX P w) 3 (He.ga K "plus") T.fd_plus ["one", "other"] (spL K 2 sp_plus) := by
  apply ok_def (k := 2) T.F_plus sc_plus
  case hb =>
    intro cdv A outer s H E hr
    exact (dss_one (ds_ret (d_callN (ok_part T) (hr.mono (by decide)) rfl T.g_part T.F_part.kp (b_part T) takesD (da_cons (d_add (d_mul (d_sub_ix (d_var 0) d_int) (d_sub_ix (d_var 1) d_int)) (d_mul (d_sub_ix (d_var 1) d_int) (d_sub_ix (d_var 0) d_int))) (da_cons (d_mul (d_sub_ix (d_var 0) d_int) (d_sub_ix (d_var 1) d_int)) da_nil)))))
  case hsp =>
    skip
    rintro ds cs Q Z ⟨x, y, rfl, hx, hy, h⟩ _
    show (_ : WS) (finD Q Z) [some _, some _] cs
    have m1 := hx.nd hy
    have m2 := hy.nd hx
    have m3 := hx.dd hy
    have m4 := hx.nn hy
    walk_at "go"
    exact ⟨_, _, rfl, Int.mul_ne_zero (den_ne x) (den_ne y), dd_ok hx hy (by decide), by rw [divInt_add]; exact h⟩


def sp_times : DSp := fun ds cs P _ => ∃ x y : Rat, ds = [dR x, dR y] ∧ Sz 4000 x ∧ Sz 4000 y ∧ P (dR (x * y)) cs

theorem sc_times : FnScope ["one", "other"] ["one", "other"] (defScope s_times) := ⟨rfl, rfl, rfl, by decide +kernel, rfl, by decide +kernel, by decide +kernel⟩
theorem ok_times {P : Program} {w : World} {K : PySem.W.Frag} {mg : Str → Option Value} {base : Heap} (T : Txt K mg) : FnOk P w K mg base (L2.CX P w) 3 (He.ga K "times") T.fd_times ["one", "other"] (spL K 2 sp_times) := by
  apply ok_def (k := 2) T.F_times sc_times
  case hb =>
    intro cdv A outer s H E hr
    exact (dss_one (ds_ret (d_callN (ok_part T) (hr.mono (by decide)) rfl T.g_part T.F_part.kp (b_part T) takesD (da_cons (d_mul (d_sub_ix (d_var 0) d_int) (d_sub_ix (d_var 1) d_int)) (da_cons (d_mul (d_sub_ix (d_var 0) d_int) (d_sub_ix (d_var 1) d_int)) da_nil)))))
  case hsp =>
    skip
    rintro ds cs Q Z ⟨x, y, rfl, hx, hy, h⟩ _
    show (_ : WS) (finD Q Z) [some _, some _] cs
    have m1 := hx.nd hy
    have m2 := hy.nd hx
    have m3 := hx.dd hy
    have m4 := hx.nn hy
    walk_at "go"
    exact ⟨_, _, rfl, Int.mul_ne_zero (den_ne x) (den_ne y), dd_ok hx hy (by decide), by rw [divInt_mul]; exact h⟩


def sp_less : DSp := fun ds cs P _ => ∃ x y : Rat, ds = [dR x, dR y] ∧ Sz 4000 x ∧ Sz 4000 y ∧ P (.bl (decide (x < y))) cs

theorem sc_less : FnScope ["one", "other"] ["one", "other"] (defScope s_less) := ⟨rfl, rfl, rfl, by decide +kernel, rfl, by decide +kernel, by decide +kernel⟩
theorem ok_less {P : Program} {w : World} {K : PySem.W.Frag} {mg : Str → Option Value} {base : Heap} (T : Txt K mg) : FnOk P w K mg base (L2.CX P w) 1 (He.ga K "less") T.fd_less ["one", "other"] (spL K 2 sp_less) := by
  apply ok_def (k := 0) T.F_less sc_less
  case hb =>
    intro cdv A outer s H E hr
    exact (dss_one (ds_ret (d_lt (d_mul (d_sub_ix (d_var 0) d_int) (d_sub_ix (d_var 1) d_int)) (d_mul (d_sub_ix (d_var 1) d_int) (d_sub_ix (d_var 0) d_int)))))
  case hsp =>
    skip
    rintro ds cs Q Z ⟨x, y, rfl, hx, hy, h⟩ _
    show (_ : WS) (finD Q Z) [some _, some _] cs
    have m1 := hx.nd hy
    have m2 := hy.nd hx
    walk_at "go"
    have e : decide (x < y) = decide (x.num * (y.den : Int) < y.num * (x.den : Int)) := decide_eq_decide.mpr (Rat.lt_iff x y)
    rw [e] at h
    exact h


def sp_over : DSp := fun ds cs P _ => ∃ x y : Rat, ds = [dR x, dR y] ∧ Sz 4000 x ∧ Sz 4000 y ∧ y ≠ 0 ∧ P (dR (x / y)) cs

theorem sc_over : FnScope ["one", "other"] ["one", "other"] (defScope s_over) := ⟨rfl, rfl, rfl, by decide +kernel, rfl, by decide +kernel, by decide +kernel⟩
theorem ok_over {P : Program} {w : World} {K : PySem.W.Frag} {mg : Str → Option Value} {base : Heap} (T : Txt K mg) : FnOk P w K mg base (L2.CX P w) 3 (He.ga K "over") T.fd_over ["one", "other"] (spL K 2 sp_over) := by
  apply ok_def (k := 2) T.F_over sc_over
  case hb =>
    intro cdv A outer s H E hr
    exact (dss_one (ds_ret (d_callN (ok_part T) (hr.mono (by decide)) rfl T.g_part T.F_part.kp (b_part T) takesD (da_cons (d_mul (d_sub_ix (d_var 0) d_int) (d_sub_ix (d_var 1) d_int)) (da_cons (d_mul (d_sub_ix (d_var 0) d_int) (d_sub_ix (d_var 1) d_int)) da_nil)))))
  case hsp =>
    skip
    rintro ds cs Q Z ⟨x, y, rfl, hx, hy, h0, h⟩ _
    show (_ : WS) (finD Q Z) [some _, some _] cs
    have m1 := hx.nd hy
    have m2 := hx.dn hy
    walk_at "go"
    exact ⟨_, _, rfl, Int.mul_ne_zero (den_ne x) (fun z => h0 (Rat.num_eq_zero.mp z)), dn_ok hx hy (by decide), by rw [divInt_div]; exact h⟩


theorem k03_total (x y : Rat) : cntD [.bl (decide (x < y)), .bl (decide (x = y)), .bl (decide (y < x))] (.bl true) = 1 := by
  have e : ∀ k : Bool, eqD (.bl k) (.bl true) = k := fun k => by cases k <;> rfl
  unfold cntD
  simp only [List.countP_cons, List.countP_nil, e, decide_eq_true_eq]
  by_cases h1 : x < y
  · have h2 : x ≠ y := fun z => by subst z; exact Rat.lt_irrefl h1
    have h3 : ¬ y < x := fun z => Rat.not_lt.mpr (Rat.le_of_lt h1) z
    simp [h1, h2, h3]
  · by_cases h2 : x = y
    · subst h2; simp [Rat.lt_irrefl]
    · have h3 : y < x := Rat.lt_of_le_of_ne (Rat.not_lt.mp h1) (Ne.symm h2)
      simp [h1, h2, h3]

theorem sc_law : FnScope ["_law_script", "_law_bag_here", "_law_turn", "_law_one", "_law_two", "_law_three", "_law_words"] ["_law_script"] (defScope s_law) := ⟨rfl, rfl, rfl, by decide +kernel, rfl, by decide +kernel, by decide +kernel⟩
theorem ok_law {P : Program} {w : World} {K : PySem.W.Frag} {mg : Str → Option Value} {base : Heap} (T : Txt K mg) : FnOk P w K mg base (L2.CX P w) 5 (He.ga K "law") T.fd_law ["_law_script"] (spL K 1 sp_law) := by
  apply ok_def (k := 4) T.F_law sc_law
  case hb =>
    intro cdv A outer s H E hr
    exact (dss_cons (ds_set (i := 1) sc_law.nd rfl (Or.inl rfl) (d_callN (ok_law_bag T) (hr.mono (by decide)) rfl T.g_law_bag T.F_law_bag.kp (b_law_bag T) takesD (da_cons (d_var 0) da_nil)))
      (dss_cons (ds_for passD rfl (di_range1 rfl T.n_range (da_cons d_int da_nil)) (dg_name (i := 2) sc_law.nd rfl (Or.inl rfl)) (dss_cons (ds_par (i := 3) (j := 4) rfl sc_law.nd rfl rfl (by decide) rfl rfl (da_cons (d_callN (ok_law_some_part T) (hr.mono (by decide)) rfl T.g_law_some_part T.F_law_some_part.kp (b_law_some_part T) takesD (da_cons (d_var 1) da_nil)) (da_cons (d_callN (ok_law_some_part T) (hr.mono (by decide)) rfl T.g_law_some_part T.F_law_some_part.kp (b_law_some_part T) takesD (da_cons (d_var 1) da_nil)) da_nil)))
      (dss_cons (ds_set (i := 5) sc_law.nd rfl (Or.inl rfl) (d_callN (ok_law_some_part T) (hr.mono (by decide)) rfl T.g_law_some_part T.F_law_some_part.kp (b_law_some_part T) takesD (da_cons (d_var 1) da_nil)))
      (dss_cons (ds_if (dt_ne hr.units (d_callN (ok_minus T) (hr.mono (by decide)) rfl T.g_minus T.F_minus.kp (b_minus T) takesD (da_cons (d_callN (ok_plus T) (hr.mono (by decide)) rfl T.g_plus T.F_plus.kp (b_plus T) takesD (da_cons (d_var 3) (da_cons (d_var 4) da_nil))) (da_cons (d_var 4) da_nil))) (d_var 3)) (dss_one (ds_ret d_bl)) dss_nil)
      (dss_cons (ds_if (dt_ne hr.units (d_callN (ok_plus T) (hr.mono (by decide)) rfl T.g_plus T.F_plus.kp (b_plus T) takesD (da_cons (d_callN (ok_minus T) (hr.mono (by decide)) rfl T.g_minus T.F_minus.kp (b_minus T) takesD (da_cons (d_var 3) (da_cons (d_var 4) da_nil))) (da_cons (d_var 4) da_nil))) (d_var 3)) (dss_one (ds_ret d_bl)) dss_nil)
      (dss_cons (ds_if (dt_w (dw_and (dt_ne hr.units (d_sub_ix (d_var 4) d_int) d_int) (dw_and1 (dt_ne hr.units (d_callN (ok_over T) (hr.mono (by decide)) rfl T.g_over T.F_over.kp (b_over T) takesD (da_cons (d_callN (ok_times T) (hr.mono (by decide)) rfl T.g_times T.F_times.kp (b_times T) takesD (da_cons (d_var 3) (da_cons (d_var 4) da_nil))) (da_cons (d_var 4) da_nil))) (d_var 3))))) (dss_one (ds_ret d_bl)) dss_nil)
      (dss_cons (ds_if (dt_w (dw_and (dt_ne hr.units (d_sub_ix (d_var 4) d_int) d_int) (dw_and1 (dt_ne hr.units (d_callN (ok_times T) (hr.mono (by decide)) rfl T.g_times T.F_times.kp (b_times T) takesD (da_cons (d_callN (ok_over T) (hr.mono (by decide)) rfl T.g_over T.F_over.kp (b_over T) takesD (da_cons (d_var 3) (da_cons (d_var 4) da_nil))) (da_cons (d_var 4) da_nil))) (d_var 3))))) (dss_one (ds_ret d_bl)) dss_nil)
      (dss_cons (ds_if (dt_ne hr.units (d_callN (ok_times T) (hr.mono (by decide)) rfl T.g_times T.F_times.kp (b_times T) takesD (da_cons (d_var 3) (da_cons (d_callN (ok_plus T) (hr.mono (by decide)) rfl T.g_plus T.F_plus.kp (b_plus T) takesD (da_cons (d_var 4) (da_cons (d_var 5) da_nil))) da_nil))) (d_callN (ok_plus T) (hr.mono (by decide)) rfl T.g_plus T.F_plus.kp (b_plus T) takesD (da_cons (d_callN (ok_times T) (hr.mono (by decide)) rfl T.g_times T.F_times.kp (b_times T) takesD (da_cons (d_var 3) (da_cons (d_var 4) da_nil))) (da_cons (d_callN (ok_times T) (hr.mono (by decide)) rfl T.g_times T.F_times.kp (b_times T) takesD (da_cons (d_var 3) (da_cons (d_var 5) da_nil))) da_nil)))) (dss_one (ds_ret d_bl)) dss_nil)
      (dss_cons (ds_if (dt_ne hr.units (d_callN (ok_less T) (hr.mono (by decide)) rfl T.g_less T.F_less.kp (b_less T) takesD (da_cons (d_callN (ok_plus T) (hr.mono (by decide)) rfl T.g_plus T.F_plus.kp (b_plus T) takesD (da_cons (d_var 3) (da_cons (d_var 5) da_nil))) (da_cons (d_callN (ok_plus T) (hr.mono (by decide)) rfl T.g_plus T.F_plus.kp (b_plus T) takesD (da_cons (d_var 4) (da_cons (d_var 5) da_nil))) da_nil))) (d_callN (ok_less T) (hr.mono (by decide)) rfl T.g_less T.F_less.kp (b_less T) takesD (da_cons (d_var 3) (da_cons (d_var 4) da_nil)))) (dss_one (ds_ret d_bl)) dss_nil)
      (dss_cons (ds_if (dt_w (dw_and (dt_val (d_callN (ok_less T) (hr.mono (by decide)) rfl T.g_less T.F_less.kp (b_less T) takesD (da_cons (d_var 3) (da_cons (d_var 4) da_nil)))) (dw_and (dt_val (d_callN (ok_less T) (hr.mono (by decide)) rfl T.g_less T.F_less.kp (b_less T) takesD (da_cons (d_var 4) (da_cons (d_var 5) da_nil)))) (dw_and1 (dt_not (dt_val (d_callN (ok_less T) (hr.mono (by decide)) rfl T.g_less T.F_less.kp (b_less T) takesD (da_cons (d_var 3) (da_cons (d_var 5) da_nil))))))))) (dss_one (ds_ret d_bl)) dss_nil)
      (dss_cons (ds_set (i := 6) sc_law.nd rfl (Or.inl rfl) (d_lst (da_cons (d_callN (ok_less T) (hr.mono (by decide)) rfl T.g_less T.F_less.kp (b_less T) takesD (da_cons (d_var 3) (da_cons (d_var 4) da_nil))) (da_cons (d_eq hr.units (d_var 3) (d_var 4)) (da_cons (d_callN (ok_less T) (hr.mono (by decide)) rfl T.g_less T.F_less.kp (b_less T) takesD (da_cons (d_var 4) (da_cons (d_var 3) da_nil))) da_nil)))))
      (dss_cons (ds_if (dt_ne hr.units (d_count hr.units (d_var 6) (da_cons d_bl da_nil)) d_int) (dss_one (ds_ret d_bl)) dss_nil)
      (dss_one (ds_if (dt_ne hr.units (d_callN (ok_part T) (hr.mono (by decide)) rfl T.g_part T.F_part.kp (b_part T) takesD (da_cons (d_mul (d_sub_ix (d_var 3) d_int) (d_sub_ix (d_var 4) d_int)) (da_cons (d_mul (d_sub_ix (d_var 4) d_int) (d_sub_ix (d_var 3) d_int)) da_nil))) (d_var 3)) (dss_one (ds_ret d_bl)) dss_nil))))))))))))))
      (dss_one (ds_ret d_bl))))
  case hsp =>
    skip
    rintro ds cs Q Z ⟨ns, rfl, hl, hcs, h⟩ _
    show (_ : WS) (finD Q Z) [some _, none, none, none, none, none, none] cs
    subst hcs
    walk_at "go"
    refine ⟨ns, rfl, fun p b hp hb => ?_⟩
    have hbag : BagIn p [(p, b)] := ⟨b, by simp [look], hb⟩
    walk_at "go"
    refine ⟨⟨by decide, by decide⟩, ?_⟩
    refine r_loop0 (fun i ρ cs' => ∃ (c2 c3 c4 c5 c6 : Option D), ρ = [some (.lst (ns.map D.int)), some (.opq (.ref p)), c2, c3, c4, c5, c6] ∧ BagIn p cs') ⟨none, none, none, none, none, rfl, hbag⟩ ?_ ?_
    · rintro i d ρ cs' N hd ⟨c2, c3, c4, c5, c6, rfl, hb1⟩ hN
      walk_at "go"
      refine ⟨p, rfl, hb1, fun x cs1 hx st1 => ?_⟩
      walk_at "go"
      refine ⟨p, rfl, st1.bag, fun y cs2 hy st2 => ?_⟩
      walk_at "go"
      refine ⟨p, rfl, st2.bag, fun z cs3 hz st3 => ?_⟩
      have hb3 := st3.bag
      clear st1 st2 st3 hb1 hd
      have hx' := hx.mono (show 201 ≤ 4000 by decide)
      have hy' := hy.mono (show 201 ≤ 4000 by decide)
      have hz' := hz.mono (show 201 ≤ 4000 by decide)
      have hxy' := (hx.add hy).mono (show 201 + 201 + 1 ≤ 4000 by decide)
      walk_at "g1"
      refine r_chk (fun nx key => ?_) ?_
      · walk_at "go"
        refine ⟨x, y, rfl, hx', hy', ⟨x + y, y, rfl, hxy', hy', ?_⟩⟩
        walk_at "go"
        refine ⟨fun hk => absurd Rat.add_sub_cancel (ndecT hk), fun hk => ?_⟩
        walk_at "go"
        exact key
      refine r_chk (fun nx key => ?_) ?_
      · walk_at "go"
        refine ⟨x, y, rfl, hx', hy', ⟨x - y, y, rfl, (hx.sub hy).mono (by decide), hy', ?_⟩⟩
        walk_at "go"
        refine ⟨fun hk => absurd Rat.sub_add_cancel (ndecT hk), fun hk => ?_⟩
        walk_at "go"
        exact key
      refine r_chk (fun nx key => ?_) ?_
      · walk_at "go"
        refine ⟨fun hk => ?_, fun hk => ?_⟩
        · have y0 : y ≠ 0 := fun e => ndecT hk (Rat.num_eq_zero.mpr e)
          walk_at "go"
          refine ⟨x, y, rfl, hx', hy', ⟨x * y, y, rfl, (hx.mul hy).mono (by decide), hy', y0, ?_⟩⟩
          walk_at "go"
          refine ⟨fun hk => absurd (Rat.mul_div_cancel y0) (ndecT hk), fun hk => ?_⟩
          walk_at "go"
          exact key
        · walk_at "go"
          exact key
      refine r_chk (fun nx key => ?_) ?_
      · walk_at "go"
        refine ⟨fun hk => ?_, fun hk => ?_⟩
        · have y0 : y ≠ 0 := fun e => ndecT hk (Rat.num_eq_zero.mpr e)
          walk_at "go"
          refine ⟨x, y, rfl, hx', hy', y0, ⟨x / y, y, rfl, (hx.div hy y0).mono (by decide), hy', ?_⟩⟩
          walk_at "go"
          refine ⟨fun hk => absurd (Rat.div_mul_cancel y0) (ndecT hk), fun hk => ?_⟩
          walk_at "go"
          exact key
        · walk_at "go"
          exact key
      refine r_chk (fun nx key => ?_) ?_
      · walk_at "go"
        refine ⟨y, z, rfl, hy', hz', ⟨x, y + z, rfl, hx', (hy.add hz).mono (by decide), ?_⟩⟩
        walk_at "go"
        refine ⟨x, y, rfl, hx', hy', ?_⟩
        walk_at "go"
        refine ⟨x, z, rfl, hx', hz', ⟨x * y, x * z, rfl, (hx.mul hy).mono (by decide), (hx.mul hz).mono (by decide), ?_⟩⟩
        walk_at "go"
        refine ⟨fun hk => absurd (Rat.mul_add x y z) (ndecT hk), fun hk => ?_⟩
        walk_at "go"
        exact key
      refine r_chk (fun nx key => ?_) ?_
      · walk_at "go"
        refine ⟨x, z, rfl, hx', hz', ?_⟩
        walk_at "go"
        refine ⟨y, z, rfl, hy', hz', ⟨x + z, y + z, rfl, (hx.add hz).mono (by decide), (hy.add hz).mono (by decide), ?_⟩⟩
        walk_at "go"
        refine ⟨x, y, rfl, hx', hy', ?_⟩
        have e : decide (x + z < y + z) = decide (x < y) := decide_eq_decide.mpr Rat.add_lt_add_right
        rw [e]
        walk_at "go"
        refine ⟨fun hk => absurd hk (by simp), fun hk => ?_⟩
        walk_at "go"
        exact key
      refine r_chk (fun nx key => ?_) ?_
      · walk_at "go"
        refine ⟨x, y, rfl, hx', hy', ?_⟩
        refine ⟨fun hk => ?_, fun hk => ?_⟩
        · walk_at "go"
          refine ⟨y, z, rfl, hy', hz', ?_⟩
          refine ⟨fun hk2 => ?_, fun hk2 => ?_⟩
          · walk_at "go"
            refine ⟨x, z, rfl, hx', hz', ?_⟩
            have e : x < z := by
              have a1 := decT hk
              have a2 := decT hk2
              exact Rat.not_le.mp fun q => Rat.not_lt.mpr (Rat.le_trans q (Rat.le_of_lt a1)) a2
            rw [decide_eq_true e]
            refine ⟨fun hk => absurd hk (by decide), fun hk => ?_⟩
            walk_at "go"
            exact key
          · walk_at "go"
            exact key
        · walk_at "go"
          exact key
      walk_at "go"
      refine ⟨x, y, rfl, hx', hy', ?_⟩
      walk_at "go"
      refine ⟨y, x, rfl, hy', hx', ?_⟩
      walk_at "g1"
      refine r_chk (fun nx key => ?_) ?_
      · walk_at "go"
        rw [k03_total]
        refine ⟨fun hk => absurd hk (by decide), fun hk => ?_⟩
        walk_at "go"
        exact key
      have m1 := hx.nd hy
      have m2 := hy.dd hx
      walk_at "go"
      refine ⟨_, _, rfl, Int.mul_ne_zero (den_ne y) (den_ne x), dd_ok hy hx (by decide), ?_⟩
      have e : Rat.divInt (x.num * (y.den : Int)) ((y.den : Int) * (x.den : Int)) = x := by
        rw [Int.mul_comm (y.den : Int), Rat.divInt_mul_right (den_ne y), Rat.num_divInt_den]
      rw [e]
      walk_at "go"
      refine ⟨fun hk => absurd rfl (ndecT hk), fun hk => ?_⟩
      walk_at "go"
      exact hN _ _ ⟨_, _, _, _, _, rfl, hb3⟩
    · rintro ρ cs' ⟨c2, c3, c4, c5, c6, rfl, hb1⟩
      walk_at "go"
      exact h _

def dd_law_bag : He.DefD := ⟨("_law_bag", none), "_law_bag", "_law_bag", defArgs s_law_bag, defBody s_law_bag, defScope s_law_bag, [], []⟩
def dd_law_gcd : He.DefD := ⟨("_law_gcd", none), "_law_gcd", "_law_gcd", defArgs s_law_gcd, defBody s_law_gcd, defScope s_law_gcd, [], []⟩
def dd_law_part : He.DefD := ⟨("_law_part", none), "_law_part", "_law_part", defArgs s_law_part, defBody s_law_part, defScope s_law_part, [], []⟩
def dd_law_get : He.DefD := ⟨("_law_get", none), "_law_get", "_law_get", defArgs s_law_get, defBody s_law_get, defScope s_law_get, [], []⟩
def dd_law_far : He.DefD := ⟨("_law_far", none), "_law_far", "_law_far", defArgs s_law_far, defBody s_law_far, defScope s_law_far, [], []⟩
def dd_law_number : He.DefD := ⟨("_law_number", none), "_law_number", "_law_number", defArgs s_law_number, defBody s_law_number, defScope s_law_number, [], []⟩
def dd_law_some_part : He.DefD := ⟨("_law_some_part", none), "_law_some_part", "_law_some_part", defArgs s_law_some_part, defBody s_law_some_part, defScope s_law_some_part, [], []⟩
def dd_common : He.DefD := ⟨("common", none), "common", "common", defArgs s_common, defBody s_common, defScope s_common, [], []⟩
def dd_part : He.DefD := ⟨("part", none), "part", "part", defArgs s_part, defBody s_part, defScope s_part, [], []⟩
def dd_minus : He.DefD := ⟨("minus", none), "minus", "minus", defArgs s_minus, defBody s_minus, defScope s_minus, [], []⟩
def dd_plus : He.DefD := ⟨("plus", none), "plus", "plus", defArgs s_plus, defBody s_plus, defScope s_plus, [], []⟩
def dd_times : He.DefD := ⟨("times", none), "times", "times", defArgs s_times, defBody s_times, defScope s_times, [], []⟩
def dd_less : He.DefD := ⟨("less", none), "less", "less", defArgs s_less, defBody s_less, defScope s_less, [], []⟩
def dd_over : He.DefD := ⟨("over", none), "over", "over", defArgs s_over, defBody s_over, defScope s_over, [], []⟩
def dd_law : He.DefD := ⟨("law", none), "law", "law", defArgs s_law, defBody s_law, defScope s_law, [], []⟩
def fnD : List He.DefD := [dd_law_bag, dd_law_gcd, dd_law_part, dd_law_get, dd_law_far, dd_law_number, dd_law_some_part, dd_common, dd_part, dd_minus, dd_plus, dd_times, dd_less, dd_over, dd_law]
def faD : List He.Fa := [.glo "_law_bag", .glo "_law_gcd", .glo "_law_part", .glo "_law_get", .glo "_law_far", .glo "_law_number", .glo "_law_some_part", .glo "common", .glo "part", .glo "minus", .glo "plus", .glo "times", .glo "less", .glo "over", .glo "law", .free "abs", .free "len", .free "list", .free "range"]
abbrev R : PySem.W.OpenRow := PySem.W.OpenLaw.row PySem.Challenge.rw_calmcuts_k03_whole_parts_there_and_back
abbrev hk : PySem.W.Hook := He.hookD 4 faD fnD
def ob (s : PySem.W.SharedT) : He.AlD := He.obsDG 4 faD fnD (HandSHeadRun.getT s)
theorem ob_eq (s : PySem.W.SharedT) : ob s = hk.obs s.abs := He.obsDG_eq (HandSHeadRun.getT_eq s)
def looseD : List PySem.Str := (["CutError", "BadPart", "common", "part", "plus", "minus", "times", "over", "less", "_law_bag", "_law_get", "_law_far", "_law_gcd", "_law_part", "_law_number", "_law_some_part"] : List PySem.Str)
theorem run (w : World) : HandSHeadRun.RunEq R (PySem.W.view R.prog [19]) hk ob 4000 looseD w := by
  intro os
  kernel_rfl
theorem facts {K : PySem.W.Frag} {h : Heap} {mg : Str → Option Value} (X : K.In h) (G : h.Ns mainGlobals mg) (c : He.SaysD faD fnD K) : Nonempty (Txt K mg) := by
  obtain ⟨fd_law_bag, F_law_bag⟩ := c.def_ 0 (d := dd_law_bag) rfl
  obtain ⟨fd_law_gcd, F_law_gcd⟩ := c.def_ 1 (d := dd_law_gcd) rfl
  obtain ⟨fd_law_part, F_law_part⟩ := c.def_ 2 (d := dd_law_part) rfl
  obtain ⟨fd_law_get, F_law_get⟩ := c.def_ 3 (d := dd_law_get) rfl
  obtain ⟨fd_law_far, F_law_far⟩ := c.def_ 4 (d := dd_law_far) rfl
  obtain ⟨fd_law_number, F_law_number⟩ := c.def_ 5 (d := dd_law_number) rfl
  obtain ⟨fd_law_some_part, F_law_some_part⟩ := c.def_ 6 (d := dd_law_some_part) rfl
  obtain ⟨fd_common, F_common⟩ := c.def_ 7 (d := dd_common) rfl
  obtain ⟨fd_part, F_part⟩ := c.def_ 8 (d := dd_part) rfl
  obtain ⟨fd_minus, F_minus⟩ := c.def_ 9 (d := dd_minus) rfl
  obtain ⟨fd_plus, F_plus⟩ := c.def_ 10 (d := dd_plus) rfl
  obtain ⟨fd_times, F_times⟩ := c.def_ 11 (d := dd_times) rfl
  obtain ⟨fd_less, F_less⟩ := c.def_ 12 (d := dd_less) rfl
  obtain ⟨fd_over, F_over⟩ := c.def_ 13 (d := dd_over) rfl
  obtain ⟨fd_law, F_law⟩ := c.def_ 14 (d := dd_law) rfl
  exact ⟨{ fd_law_bag := fd_law_bag, F_law_bag := F_law_bag, g_law_bag := He.glo_ok X G (c.fact 0 (f := .glo "_law_bag") rfl), fd_law_gcd := fd_law_gcd, F_law_gcd := F_law_gcd, g_law_gcd := He.glo_ok X G (c.fact 1 (f := .glo "_law_gcd") rfl), fd_law_part := fd_law_part, F_law_part := F_law_part, g_law_part := He.glo_ok X G (c.fact 2 (f := .glo "_law_part") rfl), fd_law_get := fd_law_get, F_law_get := F_law_get, g_law_get := He.glo_ok X G (c.fact 3 (f := .glo "_law_get") rfl), fd_law_far := fd_law_far, F_law_far := F_law_far, g_law_far := He.glo_ok X G (c.fact 4 (f := .glo "_law_far") rfl), fd_law_number := fd_law_number, F_law_number := F_law_number, g_law_number := He.glo_ok X G (c.fact 5 (f := .glo "_law_number") rfl), fd_law_some_part := fd_law_some_part, F_law_some_part := F_law_some_part, g_law_some_part := He.glo_ok X G (c.fact 6 (f := .glo "_law_some_part") rfl), fd_common := fd_common, F_common := F_common, g_common := He.glo_ok X G (c.fact 7 (f := .glo "common") rfl), fd_part := fd_part, F_part := F_part, g_part := He.glo_ok X G (c.fact 8 (f := .glo "part") rfl), fd_minus := fd_minus, F_minus := F_minus, g_minus := He.glo_ok X G (c.fact 9 (f := .glo "minus") rfl), fd_plus := fd_plus, F_plus := F_plus, g_plus := He.glo_ok X G (c.fact 10 (f := .glo "plus") rfl), fd_times := fd_times, F_times := F_times, g_times := He.glo_ok X G (c.fact 11 (f := .glo "times") rfl), fd_less := fd_less, F_less := F_less, g_less := He.glo_ok X G (c.fact 12 (f := .glo "less") rfl), fd_over := fd_over, F_over := F_over, g_over := He.glo_ok X G (c.fact 13 (f := .glo "over") rfl), fd_law := fd_law, F_law := F_law, g_law := He.glo_ok X G (c.fact 14 (f := .glo "law") rfl), n_abs := He.free_ok X G (c.fact 15 (f := .free "abs") rfl), n_len := He.free_ok X G (c.fact 16 (f := .free "len") rfl), n_list := He.free_ok X G (c.fact 17 (f := .free "list") rfl), n_range := He.free_ok X G (c.fact 18 (f := .free "range") rfl) }⟩
end Lw
open PySem PySem.W PySem.Calls PyProof.Rows
set_option maxRecDepth 100000 in
set_option maxHeartbeats 0 in
theorem PySem.Challenge.cw_calmcuts_k03_whole_parts_there_and_back_holds : PySem.Challenge.rw_calmcuts_k03_whole_parts_there_and_back.Holds := by
  w_on; o_law
  refine HandSHeadRun.head_any (r := OpenLaw.row PySem.Challenge.rw_calmcuts_k03_whole_parts_there_and_back) (q := view (OpenLaw.row PySem.Challenge.rw_calmcuts_k03_whole_parts_there_and_back).prog [19]) (H := Lw.hk) (ob := Lw.ob) (M := 4000) (loose := Lw.looseD) (d := HandSHeadRun.topDef (OpenLaw.row PySem.Challenge.rw_calmcuts_k03_whole_parts_there_and_back).prog 19) (kwd := []) Lw.ob_eq
    (by kernel_rfl) (fun s => by kernel_rfl) Lw.run (by kernel_rfl) (by kernel_rfl) (by kernel_rfl) (by rfl) (by first | assumption | decide +kernel) (by decide +kernel) ⟨rfl, rfl, rfl, rfl, rfl, by decide +kernel⟩ ?hw ?hc
  case hw => w_witness2
  case hc =>
    refine L2.walk_ofE (l := PySem.Challenge.rw_calmcuts_k03_whole_parts_there_and_back) (n := 63) (k := 5) (x := "_law_script") (CX := L2.CX0) rfl (by decide) (by kernel_rfl) ⟨rfl, by decide, by decide⟩ ?F (fun _ _ _ _ z => z)
    intro w mg fa h Y G hmg0
    obtain ⟨K, KX, c⟩ := Y
    have hmg : mg ("law" : PySem.Str) = some (.ref fa) := by
      have e : (HandSHeadRun.topDef (OpenLaw.row PySem.Challenge.rw_calmcuts_k03_whole_parts_there_and_back).prog 19).name = ("law" : PySem.Str) := by kernel_rfl
      rw [← e]
      exact hmg0
    obtain ⟨T⟩ := Lw.facts KX G c
    have ef : fa = He.ga K "law" := by
      have e := hmg.symm.trans T.g_law
      injection e with e1
      injection e1
    subst ef
    have b := L2.FunD.bindsA (ps := ["_law_script"]) T.F_law fun _ _ _ _ _ _ us hl => match us, hl with | [_], _ => rfl
    exact ⟨K, T.fd_law, (fun vs H Q _ => DL.spL K 1 DL.sp_law vs H Q fun _ _ _ => False), KX, fun s v => b s [v] rfl, fun H a ns hl _ hS => DL.law_start hl hS, fun base _ _ => DL.calmF (Lw.ok_law T)⟩
#print axioms PySem.Challenge.cw_calmcuts_k03_whole_parts_there_and_back_holds
